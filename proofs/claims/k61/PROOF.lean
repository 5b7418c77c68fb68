import PyProof.Rows.All
import Wide.All
import OpenK.AllK
import Wide.FinOn
import HandS.ForMost
import HandS.ForExc
import HandS.Wide
import HandS.WideBits
import HandS.WideMore
import HandS.IsInst
import HandS.CallSlots
import HandS.Rev
import HandS.TupAny
import HandS.Flow
import HandS.Defaults
import HandS.EndBits
import HandS.HotCalls
import HandS.ExcIs
import HandS.SuiteRaise
import PyProof.LongRange
import HandS.Deep
import HandS.Flt
import HandS.TryOnly
import HandS.Comp
import HandS.Conv
import HandS.SortInts
import HandS.TupLe
import PySem.Challenge.RW_leftnumbers_k61_worths_slopes_products
set_option Elab.async false
set_option linter.all false
set_option maxRecDepth 100000
set_option autoImplicit false
namespace PL
open PySem PySem.Spec L2
open PyProof.Rows hiding St
/-- plain values -/
inductive PV where
  | non | bl (b : Bool) | int (i : Int) | str (s : Str)
  | tup (l : List PV) | lst (l : List PV) | frz (l : List PV) | dct
/-- what an evaluation comes to -/
inductive R (α : Type) where
  | ok (a : α) | exc (c : Str) | stuck
def R.bind {α β : Type} (x : R α) (k : α → R β) : R β := match x with
  | .ok a => k a | .exc c => .exc c | .stuck => .stuck
theorem R.bind_ok {α β : Type} (a : α) (k : α → R β) : (R.ok a).bind k = k a := rfl
/-- a slot: nothing yet; a value that may be shared; a list that this def made and nobody else holds -/
inductive Slot where
  | un | val (p : PV) | own (l : List PV) | ex (a : Addr)
abbrev Rho := List Slot
/-- a written tuple -/
def KT (K : PySem.W.Frag) (a : Addr) (xs : List V) : Prop :=
  ∃ (o : Obj) (its : Array Value) (n : Nat), K.lookup a = some o ∧ o.cls = .type "tuple" ∧ o.data = .seq its n ∧ its.size ≤ sizeLine ∧ Vals xs its.toList
mutual
inductive Rep (K : PySem.W.Frag) (H : Hp) (O : Addr → Prop) : V → PV → Prop
  | non : Rep K H O .non .non
  | bl (b : Bool) : Rep K H O (.bl b) (.bl b)
  | int (i : Int) : Rep K H O (.int i) (.int i)
  | str (x : Str) : Rep K H O (.str x) (.str x)
  | lst {a : Addr} {xs : List V} {ps : List PV} : H a = some (.lst xs) → ¬ O a → Reps K H O xs ps → Rep K H O (.ref a) (.lst ps)
  | tup {a : Addr} {xs : List V} {ps : List PV} : (H a = some (.tup xs) ∧ ¬ O a ∨ KT K a xs) → Reps K H O xs ps → Rep K H O (.ref a) (.tup ps)
  | frz {a : Addr} {ns : List Int} : ((∃ o, H a = some (.frz o (.lst (ns.map V.int)))) ∧ ¬ O a ∨ ((∀ H', SqL K H' a (ns.map V.int)))) → Rep K H O (.ref a) (.frz (ns.map PV.int))
  | dct {a : Addr} {kvs : List (L2.Key × V)} : H a = some (.dK kvs) → ¬ O a → Rep K H O (.ref a) .dct
inductive Reps (K : PySem.W.Frag) (H : Hp) (O : Addr → Prop) : List V → List PV → Prop
  | nil : Reps K H O [] []
  | cons {v : V} {vs : List V} {p : PV} {ps : List PV} : Rep K H O v p → Reps K H O vs ps → Reps K H O (v :: vs) (p :: ps)
end
section
variable {K : PySem.W.Frag} {H H' : Hp} {O O' : Addr → Prop}
mutual
theorem Rep.mono (hk : ∀ a o, H a = some o → ¬ O a → H' a = some o ∧ ¬ O' a) : ∀ {v : V} {p : PV}, Rep K H O v p → Rep K H' O' v p
  | _, _, .non => .non
  | _, _, .bl b => .bl b
  | _, _, .int i => .int i
  | _, _, .str x => .str x
  | _, _, .lst h n r => .lst (hk _ _ h n).1 (hk _ _ h n).2 (Reps.mono hk r)
  | _, _, .tup (.inl ⟨h, n⟩) r => .tup (.inl ⟨(hk _ _ h n).1, (hk _ _ h n).2⟩) (Reps.mono hk r)
  | _, _, .tup (.inr h) r => .tup (.inr h) (Reps.mono hk r)
  | _, _, .frz (.inl ⟨⟨o, h⟩, n⟩) => .frz (.inl ⟨⟨o, (hk _ _ h n).1⟩, (hk _ _ h n).2⟩)
  | _, _, .frz (.inr h) => .frz (.inr h)
  | _, _, .dct h n => .dct (hk _ _ h n).1 (hk _ _ h n).2
theorem Reps.mono (hk : ∀ a o, H a = some o → ¬ O a → H' a = some o ∧ ¬ O' a) : ∀ {v : List V} {p : List PV}, Reps K H O v p → Reps K H' O' v p
  | _, _, .nil => .nil
  | _, _, .cons h r => .cons (Rep.mono hk h) (Reps.mono hk r)
end
theorem Rep.same {v : V} {p : PV} (s : Same H H') (r : Rep K H O v p) : Rep K H' O v p := r.mono fun a o h n => ⟨s a o h, n⟩
theorem Reps.same {v : List V} {p : List PV} (s : Same H H') (r : Reps K H O v p) : Reps K H' O v p := r.mono fun a o h n => ⟨s a o h, n⟩
theorem Rep.less {v : V} {p : PV} (s : ∀ a, O' a → O a) (r : Rep K H O v p) : Rep K H O' v p := r.mono fun a o h n => ⟨h, fun z => n (s a z)⟩
theorem Reps.less {v : List V} {p : List PV} (s : ∀ a, O' a → O a) (r : Reps K H O v p) : Reps K H O' v p := r.mono fun a o h n => ⟨h, fun z => n (s a z)⟩
theorem Reps.length : ∀ {vs : List V} {ps : List PV}, Reps K H O vs ps → vs.length = ps.length
  | _, _, .nil => rfl
  | _, _, .cons _ r => by rw [List.length_cons, List.length_cons, Reps.length r]
theorem Reps.get : ∀ {vs : List V} {ps : List PV} {i : Nat} {p : PV}, Reps K H O vs ps → ps[i]? = some p → ∃ v, vs[i]? = some v ∧ Rep K H O v p
  | _, _, 0, _, .cons h _, e => ⟨_, rfl, by simp at e; exact e ▸ h⟩
  | _, _, i + 1, p, .cons _ r, e => by
    obtain ⟨v, h1, h2⟩ := Reps.get (i := i) (p := p) r (by simpa using e)
    exact ⟨v, by simpa using h1, h2⟩
theorem Reps.get' : ∀ {vs : List V} {ps : List PV} {i : Nat} {v : V}, Reps K H O vs ps → vs[i]? = some v → ∃ p, ps[i]? = some p ∧ Rep K H O v p
  | _, _, 0, _, .cons h _, e => ⟨_, rfl, by simp at e; exact e ▸ h⟩
  | _, _, i + 1, v, .cons _ r, e => by
    obtain ⟨p, h1, h2⟩ := Reps.get' (i := i) (v := v) r (by simpa using e)
    exact ⟨p, by simpa using h1, h2⟩
theorem Reps.append : ∀ {vs ws : List V} {ps qs : List PV}, Reps K H O vs ps → Reps K H O ws qs → Reps K H O (vs ++ ws) (ps ++ qs)
  | _, _, _, _, .nil, s => s
  | _, _, _, _, .cons h r, s => .cons h (Reps.append r s)
theorem Reps.take : ∀ {vs : List V} {ps : List PV} (n : Nat), Reps K H O vs ps → Reps K H O (vs.take n) (ps.take n)
  | _, _, 0, _ => .nil
  | _, _, _ + 1, .nil => .nil
  | _, _, n + 1, .cons h r => .cons h (Reps.take n r)
theorem Reps.drop : ∀ {vs : List V} {ps : List PV} (n : Nat), Reps K H O vs ps → Reps K H O (vs.drop n) (ps.drop n)
  | _, _, 0, r => r
  | _, _, _ + 1, .nil => .nil
  | _, _, n + 1, .cons _ r => Reps.drop n r
theorem Reps.set {v : V} {p : PV} (h : Rep K H O v p) : ∀ {vs : List V} {ps : List PV} (n : Nat), Reps K H O vs ps → Reps K H O (vs.set n v) (ps.set n p)
  | _, _, _, .nil => .nil
  | _, _, 0, .cons _ r => .cons h r
  | _, _, n + 1, .cons q r => .cons q (Reps.set h n r)
theorem Reps.reverse {vs : List V} {ps : List PV} (h : Reps K H O vs ps) : Reps K H O vs.reverse ps.reverse := by
  induction vs generalizing ps with
  | nil => cases h; exact .nil
  | cons v vs ih => cases h with
    | cons a r => rw [List.reverse_cons, List.reverse_cons]; exact (ih r).append (.cons a .nil)
theorem Reps.dropLast {vs : List V} {ps : List PV} (h : Reps K H O vs ps) : Reps K H O vs.dropLast ps.dropLast := by
  rw [List.dropLast_eq_take, List.dropLast_eq_take, h.length]; exact h.take _
theorem Reps.ofInts : ∀ (ns : List Int), Reps K H O (ns.map V.int) (ns.map PV.int)
  | [] => .nil
  | n :: ns => .cons (.int n) (Reps.ofInts ns)
theorem Reps.bls : ∀ {ns : List Bool} {vs : List V}, Reps K H O vs (ns.map PV.bl) → vs = ns.map V.bl
  | [], _, .nil => rfl
  | n :: ns, _, .cons h r => by cases h; rw [Reps.bls r]; rfl
end
/-- the addresses that nobody else may hold: those from outside, those of the slots -/
def OO (O0 : Addr → Prop) (σ : St) (ρ : Rho) : Addr → Prop := fun a => O0 a ∨ ∃ (i : Nat) (ps : List PV), ρ[i]? = some (.own ps) ∧ σ[i]? = some (some (.ref a))
structure StR (K : PySem.W.Frag) (H0 : Hp) (O0 : Addr → Prop) (H : Hp) (σ : St) (ρ : Rho) : Prop where
  len : σ.length = ρ.length
  same : Same H0 H
  all0 : ∀ a, O0 a → H a ≠ none
  own : ∀ (i : Nat) (ps : List PV), ρ[i]? = some (.own ps) → ∃ (a : Addr) (vs : List V), σ[i]? = some (some (.ref a)) ∧ H a = some (.lst vs) ∧ H0 a = none ∧ ¬ O0 a ∧ Reps K H (OO O0 σ ρ) vs ps
  dis : ∀ (i j : Nat) (a : Addr) (ps qs : List PV), ρ[i]? = some (.own ps) → ρ[j]? = some (.own qs) → σ[i]? = some (some (.ref a)) → σ[j]? = some (some (.ref a)) → i = j
  val : ∀ (i : Nat) (p : PV), ρ[i]? = some (.val p) → ∃ (v : V), σ[i]? = some (some v) ∧ Rep K H (OO O0 σ ρ) v p
  exs : ∀ (i : Nat) (a : Addr), ρ[i]? = some (.ex a) → σ[i]? = some (some (.ref a))
theorem exs_set {σ : St} {ρ : Rho} (hl : σ.length = ρ.length) (h : ∀ (i : Nat) (a : Addr), ρ[i]? = some (.ex a) → σ[i]? = some (some (.ref a))) {i : Nat} {v : Option V} {s : Slot} (hs : ∀ a, s = .ex a → v = some (.ref a)) : ∀ (j : Nat) (a : Addr), (ρ.set i s)[j]? = some (.ex a) → (σ.set i v)[j]? = some (some (.ref a)) := fun j a e => by
  by_cases q : i = j
  · subst q
    by_cases hi : i < ρ.length
    · rw [List.getElem?_set_self hi] at e
      rw [List.getElem?_set_self (by rw [hl]; exact hi), hs a (Option.some.inj e)]
    · rw [List.getElem?_eq_none (by rw [List.length_set]; omega)] at e; cases e
  · rw [List.getElem?_set_ne q] at e ⊢
    exact h j a e
theorem exs_setR {σ : St} {ρ : Rho} (h : ∀ (i : Nat) (a : Addr), ρ[i]? = some (.ex a) → σ[i]? = some (some (.ref a))) {i : Nat} {s : Slot} (hs : ∀ a, s ≠ .ex a) : ∀ (j : Nat) (a : Addr), (ρ.set i s)[j]? = some (.ex a) → σ[j]? = some (some (.ref a)) := fun j a e => by
  by_cases q : i = j
  · subst q
    by_cases hi : i < ρ.length
    · rw [List.getElem?_set_self hi] at e
      exact absurd (Option.some.inj e) (hs a)
    · rw [List.getElem?_eq_none (by rw [List.length_set]; omega)] at e; cases e
  · rw [List.getElem?_set_ne q] at e
    exact h j a e
section
variable {K : PySem.W.Frag} {H0 H H' : Hp} {O0 : Addr → Prop} {σ : St} {ρ : Rho}
theorem StR.there (S : StR K H0 O0 H σ ρ) {a : Addr} (h : OO O0 σ ρ a) : H a ≠ none := by
  rcases h with h | ⟨i, ps, h1, h2⟩
  · exact S.all0 a h
  · obtain ⟨b, vs, e1, e2, _⟩ := S.own i ps h1
    rw [h2] at e1; cases e1
    rw [e2]; exact fun z => nomatch z
theorem StR.step (S : StR K H0 O0 H σ ρ) (s : Same H H') : StR K H0 O0 H' σ ρ :=
  ⟨S.len, S.same.trans s, fun a h z => S.all0 a h (s.free z), fun i ps h => let ⟨a, vs, e1, e2, e3, e5, e4⟩ := S.own i ps h; ⟨a, vs, e1, s _ _ e2, e3, e5, e4.same s⟩, S.dis, fun i p h => let ⟨v, e1, e2⟩ := S.val i p h; ⟨v, e1, e2.same s⟩, S.exs⟩
theorem OO.set_val {i : Nat} {v : Option V} {s : Slot} (hs : ∀ ps, s ≠ .own ps) {a : Addr} (h : OO O0 (σ.set i v) (ρ.set i s) a) : OO O0 σ ρ a := by
  rcases h with h | ⟨j, ps, h1, h2⟩
  · exact .inl h
  · by_cases e : i = j
    · subst e
      by_cases hl : i < ρ.length
      · rw [List.getElem?_set_self hl] at h1; exact absurd (Option.some.inj h1) (hs ps)
      · rw [List.getElem?_eq_none (by rw [List.length_set]; omega)] at h1; cases h1
    · rw [List.getElem?_set_ne e] at h1 h2
      exact .inr ⟨j, ps, h1, h2⟩
/-- a slot is set to a shared value (or emptied) -/
theorem StR.set (S : StR K H0 O0 H σ ρ) {i : Nat} {v : Option V} {s : Slot} (hs : ∀ ps, s ≠ .own ps) (hv : ∀ p, s = .val p → ∃ w, v = some w ∧ Rep K H (OO O0 σ ρ) w p) (hx : ∀ a, s = .ex a → v = some (.ref a) := by intro _ z; cases z) : StR K H0 O0 H (σ.set i v) (ρ.set i s) := by
  have less : ∀ a, OO O0 (σ.set i v) (ρ.set i s) a → OO O0 σ ρ a := fun a h => OO.set_val hs h
  refine ⟨by rw [List.length_set, List.length_set, S.len], S.same, S.all0, fun j ps h => ?_, fun j k a ps qs h1 h2 h3 h4 => ?_, fun j p h => ?_, exs_set S.len S.exs hx⟩
  · by_cases e : i = j
    · subst e
      by_cases hl : i < ρ.length
      · rw [List.getElem?_set_self hl] at h; exact absurd (Option.some.inj h) (hs ps)
      · rw [List.getElem?_eq_none (by rw [List.length_set]; omega)] at h; cases h
    · rw [List.getElem?_set_ne e] at h
      obtain ⟨a, vs, e1, e2, e3, e5, e4⟩ := S.own j ps h
      exact ⟨a, vs, by rw [List.getElem?_set_ne e]; exact e1, e2, e3, e5, e4.less less⟩
  · have go : ∀ {j : Nat} {ps : List PV}, (ρ.set i s)[j]? = some (.own ps) → i ≠ j := fun {j ps} h e => by
      subst e
      by_cases hl : i < ρ.length
      · rw [List.getElem?_set_self hl] at h; exact absurd (Option.some.inj h) (hs ps)
      · rw [List.getElem?_eq_none (by rw [List.length_set]; omega)] at h; cases h
    have e1 := go h1
    have e2 := go h2
    rw [List.getElem?_set_ne e1] at h1 h3
    rw [List.getElem?_set_ne e2] at h2 h4
    exact S.dis j k a ps qs h1 h2 h3 h4
  · by_cases e : i = j
    · subst e
      by_cases hl : i < ρ.length
      · rw [List.getElem?_set_self hl] at h
        obtain ⟨w, e1, e2⟩ := hv p (Option.some.inj h)
        exact ⟨w, by rw [List.getElem?_set_self (by rw [S.len]; exact hl), e1], e2.less less⟩
      · rw [List.getElem?_eq_none (by rw [List.length_set]; omega)] at h; cases h
    · rw [List.getElem?_set_ne e] at h
      obtain ⟨w, e1, e2⟩ := S.val j p h
      exact ⟨w, by rw [List.getElem?_set_ne e]; exact e1, e2.less less⟩
/-- a slot is set to a list that is new -/
theorem StR.setOwn (S : StR K H0 O0 H σ ρ) (s : Same H H') {i : Nat} {a : Addr} {vs : List V} {ps : List PV} (hn : H a = none) (ha : H' a = some (.lst vs)) (hr : Reps K H' (fun b => OO O0 σ ρ b ∨ b = a) vs ps) :
    StR K H0 O0 H' (σ.set i (some (.ref a))) (ρ.set i (.own ps)) := by
  have less : ∀ b, OO O0 (σ.set i (some (.ref a))) (ρ.set i (.own ps)) b → OO O0 σ ρ b ∨ b = a := fun b h => by
    rcases h with h | ⟨j, qs, h1, h2⟩
    · exact .inl (.inl h)
    · by_cases e : i = j
      · subst e
        by_cases hl : i < σ.length
        · rw [List.getElem?_set_self hl] at h2; cases h2; exact .inr rfl
        · rw [List.getElem?_eq_none (by rw [List.length_set]; omega)] at h2; cases h2
      · rw [List.getElem?_set_ne e] at h1 h2
        exact .inl (.inr ⟨j, qs, h1, h2⟩)
  have h0 : H0 a = none := S.same.free hn
  have nota : ∀ {b : Addr} {o : HO}, H b = some o → b ≠ a := fun hb z => by rw [z, hn] at hb; cases hb
  have keep : ∀ {v : V} {p : PV}, Rep K H (OO O0 σ ρ) v p → Rep K H' (OO O0 (σ.set i (some (.ref a))) (ρ.set i (.own ps))) v p := fun r => r.mono fun b o hb nb => ⟨s b o hb, fun z => (less b z).elim nb (nota hb)⟩
  have keeps : ∀ {v : List V} {p : List PV}, Reps K H (OO O0 σ ρ) v p → Reps K H' (OO O0 (σ.set i (some (.ref a))) (ρ.set i (.own ps))) v p := fun r => r.mono fun b o hb nb => ⟨s b o hb, fun z => (less b z).elim nb (nota hb)⟩
  refine ⟨by rw [List.length_set, List.length_set, S.len], S.same.trans s, fun a h z => S.all0 a h (s.free z), fun j qs h => ?_, fun j k b qs rs h1 h2 h3 h4 => ?_, fun j p h => ?_, exs_set S.len S.exs fun _ z => nomatch z⟩
  · by_cases e : i = j
    · subst e
      by_cases hl : i < ρ.length
      · rw [List.getElem?_set_self hl] at h; cases h
        exact ⟨a, vs, by rw [List.getElem?_set_self (by rw [S.len]; exact hl)], ha, h0, fun z => S.all0 a z hn, hr.less less⟩
      · rw [List.getElem?_eq_none (by rw [List.length_set]; omega)] at h; cases h
    · rw [List.getElem?_set_ne e] at h
      obtain ⟨b, ws, e1, e2, e3, e5, e4⟩ := S.own j qs h
      exact ⟨b, ws, by rw [List.getElem?_set_ne e]; exact e1, s _ _ e2, e3, e5, keeps e4⟩
  · have other : ∀ {j : Nat} {qs : List PV} {b : Addr}, i ≠ j → (ρ.set i (.own ps))[j]? = some (.own qs) → (σ.set i (some (.ref a)))[j]? = some (some (.ref b)) → b ≠ a := fun {j qs b} e h1 h3 z => by
      rw [List.getElem?_set_ne e] at h1 h3
      obtain ⟨c, ws, e1, e2, _⟩ := S.own j qs h1
      rw [h3] at e1; cases e1
      exact nota e2 z
    have self : ∀ {j : Nat} {b : Addr}, i = j → (σ.set i (some (.ref a)))[j]? = some (some (.ref b)) → b = a := fun {j b} e h3 => by
      subst e
      by_cases hl : i < σ.length
      · rw [List.getElem?_set_self hl] at h3; cases h3; rfl
      · rw [List.getElem?_eq_none (by rw [List.length_set]; omega)] at h3; cases h3
    by_cases e1 : i = j
    · by_cases e2 : i = k
      · exact e1.symm.trans e2
      · exact absurd (self e1 h3) (other e2 h2 h4)
    · by_cases e2 : i = k
      · exact absurd (self e2 h4) (other e1 h1 h3)
      · rw [List.getElem?_set_ne e1] at h1 h3
        rw [List.getElem?_set_ne e2] at h2 h4
        exact S.dis j k b qs rs h1 h2 h3 h4
  · by_cases e : i = j
    · subst e
      by_cases hl : i < ρ.length
      · rw [List.getElem?_set_self hl] at h; cases h
      · rw [List.getElem?_eq_none (by rw [List.length_set]; omega)] at h; cases h
    · rw [List.getElem?_set_ne e] at h
      obtain ⟨w, e1, e2⟩ := S.val j p h
      exact ⟨w, by rw [List.getElem?_set_ne e]; exact e1, keep e2⟩
/-- an owned list is changed -/
theorem StR.write (S : StR K H0 O0 H σ ρ) {i : Nat} {a : Addr} {ps qs : List PV} {ws : List V} (h1 : ρ[i]? = some (.own ps)) (h2 : σ[i]? = some (some (.ref a))) (hr : Reps K H (OO O0 σ ρ) ws qs) :
    StR K H0 O0 (upd H a (.lst ws)) σ (ρ.set i (.own qs)) := by
  have hi : i < ρ.length := (List.getElem?_eq_some_iff.mp h1).1
  have oeq : ∀ b, OO O0 σ (ρ.set i (.own qs)) b ↔ OO O0 σ ρ b := fun b => by
    constructor
    · rintro (h | ⟨j, rs, e1, e2⟩)
      · exact .inl h
      · by_cases e : i = j
        · subst e; exact .inr ⟨i, ps, h1, e2⟩
        · rw [List.getElem?_set_ne e] at e1; exact .inr ⟨j, rs, e1, e2⟩
    · rintro (h | ⟨j, rs, e1, e2⟩)
      · exact .inl h
      · by_cases e : i = j
        · subst e; exact .inr ⟨i, qs, List.getElem?_set_self hi, e2⟩
        · exact .inr ⟨j, rs, by rw [List.getElem?_set_ne e]; exact e1, e2⟩
  have hO : OO O0 σ ρ a := .inr ⟨i, ps, h1, h2⟩
  have hk : ∀ b o, H b = some o → ¬ OO O0 σ ρ b → upd H a (.lst ws) b = some o ∧ ¬ OO O0 σ (ρ.set i (.own qs)) b := fun b o hb nb =>
    ⟨by rw [upd_ne (fun z => nb (by rw [z]; exact hO))]; exact hb, fun z => nb ((oeq b).mp z)⟩
  obtain ⟨a', vs, e1, e2, e3, e5, _⟩ := S.own i ps h1
  rw [h2] at e1; cases e1
  refine ⟨by rw [List.length_set, S.len], fun b o hb => ?_, fun b hb => ?_, fun j rs h => ?_, fun j k b rs ts g1 g2 g3 g4 => ?_, fun j p h => ?_, exs_setR S.exs fun _ z => nomatch z⟩
  · rw [upd_ne (fun z => by rw [z, e3] at hb; cases hb)]; exact S.same b o hb
  · by_cases e : b = a
    · rw [e, upd_same]; exact fun z => nomatch z
    · rw [upd_ne e]; exact S.all0 b hb
  · by_cases e : i = j
    · subst e
      rw [List.getElem?_set_self hi] at h; cases h
      exact ⟨a, ws, h2, upd_same, e3, e5, hr.mono hk⟩
    · rw [List.getElem?_set_ne e] at h
      obtain ⟨b, us, f1, f2, f3, f5, f4⟩ := S.own j rs h
      exact ⟨b, us, f1, by rw [upd_ne (fun z => e (S.dis i j a ps rs h1 h h2 (by rw [← z]; exact f1)))]; exact f2, f3, f5, f4.mono hk⟩
  · have go : ∀ {j : Nat} {rs : List PV}, (ρ.set i (.own qs))[j]? = some (.own rs) → ∃ rs', ρ[j]? = some (.own rs') := fun {j rs} h => by
      by_cases e : i = j
      · subst e; exact ⟨_, h1⟩
      · rw [List.getElem?_set_ne e] at h; exact ⟨_, h⟩
    obtain ⟨_, f1⟩ := go g1
    obtain ⟨_, f2⟩ := go g2
    exact S.dis j k b _ _ f1 f2 g3 g4
  · by_cases e : i = j
    · subst e
      rw [List.getElem?_set_self hi] at h; cases h
    · rw [List.getElem?_set_ne e] at h
      obtain ⟨w, f1, f2⟩ := S.val j p h
      exact ⟨w, f1, f2.mono hk⟩
end
end PL
set_option Elab.async false
set_option linter.all false
set_option maxRecDepth 100000
set_option autoImplicit false
namespace PL
open PySem PySem.Spec L2
open PyProof.Rows hiding St
/-- how a result stands: s: apart from the owned lists; t: it may be an owned list itself; f: a list that is new; w: apart from the outer addresses alone -/
inductive Md where
  | s | t | f | w
def RepM (K : PySem.W.Frag) (O0 : Addr → Prop) (σ : St) (ρ : Rho) : Md → Hp → Hp → V → PV → Prop
  | .s, _, H', v, p => Rep K H' (OO O0 σ ρ) v p
  | .t, _, H', v, p => Rep K H' (OO O0 σ ρ) v p ∨ ∃ a vs ps, v = .ref a ∧ p = .lst ps ∧ H' a = some (.lst vs) ∧ Reps K H' (OO O0 σ ρ) vs ps
  | .f, H, H', v, p => ∃ a vs ps, v = .ref a ∧ p = .lst ps ∧ H a = none ∧ H' a = some (.lst vs) ∧ Reps K H' (fun b => OO O0 σ ρ b ∨ b = a) vs ps
  | .w, _, H', v, p => Rep K H' O0 v p
section
variable {K : PySem.W.Frag} {H0 H H1 H2 : Hp} {O0 : Addr → Prop} {σ : St} {ρ : Rho} {v : V} {p : PV} {m : Md}
theorem RepM.step (r : RepM K O0 σ ρ m H H1 v p) (s : Same H1 H2) : RepM K O0 σ ρ m H H2 v p := by
  cases m with
  | s => exact Rep.same s r
  | t =>
    rcases r with r | ⟨a, vs, ps, e1, e2, e3, e4⟩
    · exact .inl (r.same s)
    · exact .inr ⟨a, vs, ps, e1, e2, s _ _ e3, e4.same s⟩
  | f => obtain ⟨a, vs, ps, e1, e2, e3, e4, e5⟩ := r; exact ⟨a, vs, ps, e1, e2, e3, s _ _ e4, e5.same s⟩
  | w => exact Rep.same s r
theorem RepM.back (s : Same H H1) (r : RepM K O0 σ ρ m H1 H2 v p) : RepM K O0 σ ρ m H H2 v p := by
  cases m with
  | s => exact r
  | t => exact r
  | f => obtain ⟨a, vs, ps, e1, e2, e3, e4, e5⟩ := r; exact ⟨a, vs, ps, e1, e2, s.free e3, e4, e5⟩
  | w => exact r
theorem RepM.f_s (S : StR K H0 O0 H σ ρ) (r : RepM K O0 σ ρ .f H H1 v p) : RepM K O0 σ ρ .s H H1 v p := by
  obtain ⟨a, vs, ps, rfl, rfl, e3, e4, e5⟩ := r
  exact .lst e4 (fun z => S.there z e3) (e5.less fun _ z => .inl z)
theorem RepM.s_w (r : RepM K O0 σ ρ .s H H1 v p) : RepM K O0 σ ρ .w H H1 v p := Rep.less (fun _ z => .inl z) r
theorem RepM.s_t (r : RepM K O0 σ ρ .s H H1 v p) : RepM K O0 σ ρ .t H H1 v p := .inl r
end
/-- what an expression's end must bring -/
def Got (K : PySem.W.Frag) (mg : Str → Option Value) (W : WX) (O0 : Addr → Prop) (σ : St) (ρ : Rho) (m : Md) (H : Hp) (Q : VK) : R PV → Prop
  | .ok p => ∀ v H', Same H H' → RepM K O0 σ ρ m H H' v p → Q v H'
  | .exc c => ∀ C H', Same H H' → mg c = some (.ref C) → W (.ref C) none σ H'
  | .stuck => False
def GotT (mg : Str → Option Value) (W : WX) (σ : St) (H : Hp) (Q : Bool → Hp → Prop) : R Bool → Prop
  | .ok b => ∀ H', Same H H' → Q b H'
  | .exc c => ∀ C H', Same H H' → mg c = some (.ref C) → W (.ref C) none σ H'
  | .stuck => False
def GotA (K : PySem.W.Frag) (mg : Str → Option Value) (W : WX) (O0 : Addr → Prop) (σ : St) (ρ : Rho) (m : Md) (H : Hp) (Q : List V → Hp → Prop) : R (List PV) → Prop
  | .ok ps => ∀ vs H', Same H H' → Paired (RepM K O0 σ ρ m H H') vs ps → Q vs H'
  | .exc c => ∀ C H', Same H H' → mg c = some (.ref C) → W (.ref C) none σ H'
  | .stuck => False
def tE (K : PySem.W.Frag) (mg : Str → Option Value) (W : WX) (m : Md) (f : Rho → R PV) : TE := fun σ H Q =>
  ∃ H0 O0 ρ, StR K H0 O0 H σ ρ ∧ Got K mg W O0 σ ρ m H Q (f ρ)
def tT (K : PySem.W.Frag) (mg : Str → Option Value) (W : WX) (f : Rho → R Bool) : TT := fun σ H Q =>
  ∃ H0 O0 ρ, StR K H0 O0 H σ ρ ∧ GotT mg W σ H Q (f ρ)
def tA (K : PySem.W.Frag) (mg : Str → Option Value) (W : WX) (m : Md) (f : Rho → R (List PV)) : TA := fun σ H Q =>
  ∃ H0 O0 ρ, StR K H0 O0 H σ ρ ∧ GotA K mg W O0 σ ρ m H Q (f ρ)
abbrev EJ (X : Cx) (W : WX) (m : Md) (e : Expr) (f : Rho → R PV) : Prop := PE X e (tE X.K X.mg W m f)
abbrev TJ (X : Cx) (W : WX) (e : Expr) (f : Rho → R Bool) : Prop := PT X e (tT X.K X.mg W f)
abbrev AJ (X : Cx) (W : WX) (m : Md) (es : List Expr) (f : Rho → R (List PV)) : Prop := PA X es (tA X.K X.mg W m f)
section
variable {X : Cx} {e a b : Expr} {pos : Pos}
theorem pe_imp {t t' : TE} (h : PE X e t) (q : ∀ σ H Q, t' σ H Q → t σ H Q) : PE X e t' := ⟨fun pins s σ H Q I hw => h.run pins s σ H Q I (q σ H Q hw)⟩
theorem pt_imp {t t' : TT} (h : PT X e t) (q : ∀ σ H Q, t' σ H Q → t σ H Q) : PT X e t' := ⟨fun pins s σ H Q I hw => h.run pins s σ H Q I (q σ H Q hw)⟩
theorem pw_imp {t t' : TT} (h : PW X e t) (q : ∀ σ H Q, t' σ H Q → t σ H Q) : PW X e t' := ⟨fun wh pins s σ H Q I hw => h.run wh pins s σ H Q I (q σ H Q hw)⟩
theorem pa_imp {es : List Expr} {t t' : TA} (h : PA X es t) (q : ∀ σ H Q, t' σ H Q → t σ H Q) : PA X es t' := ⟨fun pos pins s σ H Q I hw => h.run pos pins s σ H Q I (q σ H Q hw)⟩
end
section
variable {K : PySem.W.Frag} {mg : Str → Option Value} {W : WX} {H0 H H1 H2 : Hp} {O0 : Addr → Prop} {σ : St} {ρ : Rho} {m m1 m2 : Md}
/-- from a later heap -/
theorem Got.later {x : R PV} {Q : VK} (s : Same H H1) (h : Got K mg W O0 σ ρ m H Q x) : Got K mg W O0 σ ρ m H1 Q x := by
  cases x with
  | ok p => exact fun v H' s' r => h v H' (s.trans s') (r.back s)
  | exc c => exact fun C H' s' e => h C H' (s.trans s') e
  | stuck => exact h
theorem GotT.later {x : R Bool} {Q : Bool → Hp → Prop} (s : Same H H1) (h : GotT mg W σ H Q x) : GotT mg W σ H1 Q x := by
  cases x with
  | ok p => exact fun H' s' => h H' (s.trans s')
  | exc c => exact fun C H' s' e => h C H' (s.trans s') e
  | stuck => exact h
end
def eC (p : PV) : Rho → R PV := fun _ => .ok p
def eV (i : Nat) : Rho → R PV := fun ρ => match ρ[i]? with
  | some (.val p) => .ok p
  | _ => .stuck
def eVo (i : Nat) : Rho → R PV := fun ρ => match ρ[i]? with
  | some (.val p) => .ok p
  | some (.own ps) => .ok (.lst ps)
  | _ => .stuck
section
variable {X : Cx} {W : WX} {e a b c : Expr} {pos : Pos} {m m1 m2 m3 : Md} {f g h : Rho → R PV}
theorem e_const {v : V} {p : PV} (hp : PE X e (tC v)) (hr : ∀ K H O, Rep K H O v p) : EJ X W .s e (eC p) := by
  refine pe_imp hp fun σ H Q ⟨H0, O0, ρ, S, G⟩ => ?_
  exact G v H (Same.refl H) (hr _ _ _)
theorem e_int {i : Int} {j : Nat} : EJ X W .s (.Constant (.int i) j pos) (eC (.int i)) := e_const pe_int fun _ _ _ => .int i
theorem e_bl {k : Bool} {j : Nat} : EJ X W .s (.Constant (.bool k) j pos) (eC (.bl k)) := e_const pe_bl fun _ _ _ => .bl k
theorem e_non {j : Nat} : EJ X W .s (.Constant .none j pos) (eC .non) := e_const pe_non fun _ _ _ => .non
theorem e_str {x : Str} {j : Nat} : EJ X W .s (.Constant (.str x) j pos) (eC (.str x)) := e_const pe_str fun _ _ _ => .str x
theorem e_s_w (h : EJ X W .s e f) : EJ X W .w e f := by
  refine pe_imp h fun σ H Q ⟨H0, O0, ρ, S, G⟩ => ⟨H0, O0, ρ, S, ?_⟩
  revert G
  cases f ρ with
  | ok p => exact fun G v H' s r => G v H' s (RepM.s_w (H := H) r)
  | exc c => exact id
  | stuck => exact id
theorem e_s_t (h : EJ X W .s e f) : EJ X W .t e f := by
  refine pe_imp h fun σ H Q ⟨H0, O0, ρ, S, G⟩ => ⟨H0, O0, ρ, S, ?_⟩
  revert G
  cases f ρ with
  | ok p => exact fun G v H' s r => G v H' s (RepM.s_t (H := H) r)
  | exc c => exact id
  | stuck => exact id
theorem e_f_s (h : EJ X W .f e f) : EJ X W .s e f := by
  refine pe_imp h fun σ H Q ⟨H0, O0, ρ, S, G⟩ => ⟨H0, O0, ρ, S, ?_⟩
  revert G
  cases f ρ with
  | ok p => exact fun G v H' s r => G v H' s (RepM.f_s S r)
  | exc c => exact id
  | stuck => exact id
theorem e_f_t (h : EJ X W .f e f) : EJ X W .t e f := e_s_t (e_f_s h)
theorem eVar_get {K : PySem.W.Frag} {H0 H : Hp} {O0 : Addr → Prop} {σ : St} {ρ : Rho} (S : StR K H0 O0 H σ ρ) {i : Nat} {p : PV} (h : eV i ρ = .ok p) : ∃ v, σ[i]? = some (some v) ∧ Rep K H (OO O0 σ ρ) v p := by
  unfold eV at h
  split at h
  · rename_i q hq
    cases h
    exact S.val i _ hq
  · cases h
theorem e_var {i : Nat} (hp : PE X e (tVar i)) : EJ X W .s e (eV i) := by
  refine pe_imp hp fun σ H Q ⟨H0, O0, ρ, S, G⟩ => ?_
  revert G
  cases hv : eV i ρ with
  | ok p =>
    intro G
    obtain ⟨v, e1, e2⟩ := eVar_get S hv
    exact ⟨v, e1, G v H (Same.refl H) e2⟩
  | exc c => unfold eV at hv; split at hv <;> cases hv
  | stuck => exact False.elim
theorem eVo_get {K : PySem.W.Frag} {H0 H : Hp} {O0 : Addr → Prop} {σ : St} {ρ : Rho} (S : StR K H0 O0 H σ ρ) {i : Nat} {p : PV} (h : eVo i ρ = .ok p) : ∃ v, σ[i]? = some (some v) ∧ RepM K O0 σ ρ .t H H v p ∧ RepM K O0 σ ρ .w H H v p := by
  unfold eVo at h
  split at h
  · rename_i q hq
    cases h
    obtain ⟨v, e1, e2⟩ := S.val i _ hq
    exact ⟨v, e1, .inl e2, RepM.s_w (H := H) e2⟩
  · rename_i ps hq
    cases h
    obtain ⟨a, vs, e1, e2, e3, e5, e4⟩ := S.own i _ hq
    exact ⟨.ref a, e1, .inr ⟨a, vs, _, rfl, rfl, e2, e4⟩, .lst e2 e5 (e4.less fun _ z => .inl z)⟩
  · cases h
theorem eVo_noexc {i : Nat} {ρ : Rho} {c : Str} (h : eVo i ρ = .exc c) : False := by
  unfold eVo at h
  split at h <;> cases h
theorem e_varT {i : Nat} (hp : PE X e (tVar i)) : EJ X W .t e (eVo i) := by
  refine pe_imp hp fun σ H Q ⟨H0, O0, ρ, S, G⟩ => ?_
  revert G
  cases hv : eVo i ρ with
  | ok p =>
    intro G
    obtain ⟨v, e1, e2, _⟩ := eVo_get S hv
    exact ⟨v, e1, G v H (Same.refl H) e2⟩
  | exc c => exact (eVo_noexc hv).elim
  | stuck => exact False.elim
theorem e_varW {i : Nat} (hp : PE X e (tVar i)) : EJ X W .w e (eVo i) := by
  refine pe_imp hp fun σ H Q ⟨H0, O0, ρ, S, G⟩ => ?_
  revert G
  cases hv : eVo i ρ with
  | ok p =>
    intro G
    obtain ⟨v, e1, _, e2⟩ := eVo_get S hv
    exact ⟨v, e1, G v H (Same.refl H) e2⟩
  | exc c => exact (eVo_noexc hv).elim
  | stuck => exact False.elim
/-- what an operation's end must bring -/
def GotV (K : PySem.W.Frag) (O0 : Addr → Prop) (σ : St) (ρ : Rho) (m : Md) (H H2 : Hp) (Q : VK) : R PV → Prop
  | .ok p => ∀ v H', Same H2 H' → RepM K O0 σ ρ m H H' v p → Q v H'
  | _ => False
def OpS (K : PySem.W.Frag) (r : R2) (m1 m2 m : Md) (g : PV → PV → R PV) : Prop :=
  ∀ {H0 O0 σ ρ H H2 x y p q} {Q : VK}, StR K H0 O0 H σ ρ → Same H H2 → RepM K O0 σ ρ m1 H H2 x p → RepM K O0 σ ρ m2 H H2 y q → GotV K O0 σ ρ m H H2 Q (g p q) → r x y H2 Q
def UnS (K : PySem.W.Frag) (r : V → Hp → VK → Prop) (m1 m : Md) (g : PV → R PV) : Prop :=
  ∀ {H0 O0 σ ρ H H2 x p} {Q : VK}, StR K H0 O0 H σ ρ → Same H H2 → RepM K O0 σ ρ m1 H H2 x p → GotV K O0 σ ρ m H H2 Q (g p) → r x H2 Q
def CallS (K : PySem.W.Frag) (r : List V → Hp → VK → Prop) (m1 m : Md) (g : List PV → R PV) : Prop :=
  ∀ {H0 O0 σ ρ H H2 xs ps} {Q : VK}, StR K H0 O0 H σ ρ → Same H H2 → Paired (RepM K O0 σ ρ m1 H H2) xs ps → GotV K O0 σ ρ m H H2 Q (g ps) → r xs H2 Q
def e2 (g : PV → PV → R PV) (f1 f2 : Rho → R PV) : Rho → R PV := fun ρ => (f1 ρ).bind fun x => (f2 ρ).bind fun y => g x y
def e1 (g : PV → R PV) (f1 : Rho → R PV) : Rho → R PV := fun ρ => (f1 ρ).bind g
theorem Got.v {K : PySem.W.Frag} {mg : Str → Option Value} {O0 : Addr → Prop} {σ : St} {ρ : Rho} {H H2 : Hp} {Q : VK} {x : R PV} (hx : ∀ c, x ≠ .exc c) (s : Same H H2) (G : Got K mg W O0 σ ρ m H Q x) : GotV K O0 σ ρ m H H2 Q x := by
  cases x with
  | ok p => exact fun v H' s' r => G v H' (s.trans s') r
  | exc c => exact absurd rfl (hx c)
  | stuck => exact G
theorem t_op {r : R2} {g : PV → PV → R PV} (hg : ∀ p q c, g p q ≠ .exc c) (ho : OpS X.K r m1 m2 m g) : ∀ σ H Q, tE X.K X.mg W m (e2 g f h) σ H Q → tOp r (tE X.K X.mg W m1 f) (tE X.K X.mg W m2 h) σ H Q := by
  intro σ H Q ⟨H0, O0, ρ, S, G⟩
  refine ⟨H0, O0, ρ, S, ?_⟩
  revert G
  unfold e2
  cases f ρ with
  | stuck => exact False.elim
  | exc c => exact id
  | ok p =>
    intro G x H1 s1 r1
    refine ⟨H0, O0, ρ, S.step s1, ?_⟩
    revert G
    rw [R.bind_ok]
    cases h ρ with
    | stuck => exact False.elim
    | exc c => exact fun G C H' s' => G C H' (s1.trans s')
    | ok q =>
      intro G y H2 s2 r2
      exact ho S (s1.trans s2) (r1.step s2) (r2.back s1) (Got.v (hg p q) (s1.trans s2) G)
theorem e_op {op : Operator} {r : R2} {g : PV → PV → R PV} (hr : OpR X (binaryOp op) r) (hg : ∀ p q c, g p q ≠ .exc c) (ho : OpS X.K r m1 m2 m g) (ha : EJ X W m1 a f) (hb : EJ X W m2 b h) : EJ X W m (.BinOp a op b pos) (e2 g f h) :=
  pe_imp (pe_op hr ha hb) (t_op hg ho)
theorem e_cmp {op : CmpOp} {r : R2} {g : PV → PV → R PV} (hr : OpR X (compareOp op) r) (hg : ∀ p q c, g p q ≠ .exc c) (ho : OpS X.K r m1 m2 m g) (ha : EJ X W m1 a f) (hb : EJ X W m2 b h) (hm : behindInMarks op b = false) : EJ X W m (.Compare a [op] [b] pos) (e2 g f h) :=
  pe_imp (pe_cmpR hr ha hb hm) (t_op hg ho)
theorem e_ix {r : R2} {g : PV → PV → R PV} (hr : IxR X r) (hg : ∀ p q c, g p q ≠ .exc c) (ho : OpS X.K r m1 m2 m g) (ha : EJ X W m1 a f) (hb : EJ X W m2 b h) (hs : PlainIx b) : EJ X W m (.Subscript a b pos) (e2 g f h) :=
  pe_imp (pe_ix hr ha hb hs) (t_op hg ho)
theorem e_un {op : UnaryOp} {r : V → Hp → VK → Prop} {g : PV → R PV} (hr : UnR X (unaryOp op) r) (hg : ∀ p c, g p ≠ .exc c) (ho : UnS X.K r m1 m g) (ha : EJ X W m1 a f) : EJ X W m (.UnaryOp op a pos) (e1 g f) := by
  refine pe_imp (pe_un hr ha) fun σ H Q ⟨H0, O0, ρ, S, G⟩ => ⟨H0, O0, ρ, S, ?_⟩
  revert G
  unfold e1
  cases f ρ with
  | stuck => exact False.elim
  | exc c => exact id
  | ok p => exact fun G x H1 s1 r1 => ho S s1 r1 (Got.v (hg p) s1 G)
def asB : PV → R Bool
  | .bl b => .ok b
  | _ => .stuck
def tB1 (f : Rho → R PV) : Rho → R Bool := fun ρ => (f ρ).bind asB
theorem GotB {K : PySem.W.Frag} {mg : Str → Option Value} {O0 : Addr → Prop} {σ : St} {ρ : Rho} {H : Hp} {Q : Bool → Hp → Prop} {x : R PV} (G : GotT mg W σ H Q (x.bind asB)) : Got K mg W O0 σ ρ .s H (fun v H' => ∃ k, v = .bl k ∧ Q k H') x := by
  revert G
  cases x with
  | stuck => exact False.elim
  | exc c => exact id
  | ok p =>
    cases p with
    | bl b => exact fun G v H' s r => by cases r; exact ⟨b, rfl, G H' s⟩
    | _ => exact False.elim
theorem t_cmp {op : CmpOp} {r : R2} {g : PV → PV → R PV} (hr : OpR X (compareOp op) r) (hg : ∀ p q c, g p q ≠ .exc c) (ho : OpS X.K r m1 m2 .s g) (ha : EJ X W m1 a f) (hb : EJ X W m2 b h) (hm : behindInMarks op b = false) : TJ X W (.Compare a [op] [b] pos) (tB1 (e2 g f h)) := by
  refine pt_imp (pt_cmpR hr ha hb hm) fun σ H Q ⟨H0, O0, ρ, S, G⟩ => ?_
  exact t_op hg ho σ H _ ⟨H0, O0, ρ, S, GotB G⟩
/-- an expression of any other kind, worth a truth value -/
theorem t_val (ha : EJ X W .s e f) (he : ∀ whole, isTrue e X.env whole = (do let v ← whole; standAt e.pos; holding [v] (truthy v)) := by intro _; rfl) : TJ X W e (tB1 f) := by
  refine pt_imp (pt_val ha he) fun σ H Q ⟨H0, O0, ρ, S, G⟩ => ⟨H0, O0, ρ, S, GotB G⟩
variable {fT gT hT : Rho → R Bool}
def tNt (f : Rho → R Bool) : Rho → R Bool := fun ρ => (f ρ).bind fun b => .ok (!b)
def tAn (f g : Rho → R Bool) : Rho → R Bool := fun ρ => (f ρ).bind fun b => if b = true then g ρ else .ok false
def tOr' (f g : Rho → R Bool) : Rho → R Bool := fun ρ => (f ρ).bind fun b => if b = true then .ok true else g ρ
theorem t_not (ha : TJ X W a fT) : TJ X W (.UnaryOp .Not a pos) (tNt fT) := by
  refine pt_imp (pt_not ha) fun σ H Q ⟨H0, O0, ρ, S, G⟩ => ⟨H0, O0, ρ, S, ?_⟩
  revert G
  unfold tNt
  cases fT ρ with
  | stuck => exact False.elim
  | exc c => exact id
  | ok b => exact fun G H' s => G H' s
abbrev WJ (X : Cx) (W : WX) (e : Expr) (f : Rho → R Bool) : Prop := PW X e (tT X.K X.mg W f)
theorem t_w (h : WJ X W e fT) : TJ X W e fT := PW.pt h
variable {rest : List Expr}
theorem w_and1 (ha : TJ X W a fT) : WJ X W (.BoolOp .And [a] pos) fT := pw_and1 ha
theorem w_or1 (ha : TJ X W a fT) : WJ X W (.BoolOp .Or [a] pos) fT := pw_or1 ha
theorem w_and (ha : TJ X W a fT) (hb : WJ X W (.BoolOp .And (b :: rest) pos) gT) : WJ X W (.BoolOp .And (a :: b :: rest) pos) (tAn fT gT) := by
  refine pw_imp (pw_and ha hb) fun σ H Q ⟨H0, O0, ρ, S, G⟩ => ⟨H0, O0, ρ, S, ?_⟩
  revert G
  unfold tAn
  cases fT ρ with
  | stuck => exact False.elim
  | exc c => exact id
  | ok k =>
    intro G H1 s1
    cases k with
    | true => rw [if_pos rfl]; exact ⟨H0, O0, ρ, S.step s1, GotT.later s1 G⟩
    | false => rw [if_neg Bool.false_ne_true]; exact G H1 s1
theorem w_or (ha : TJ X W a fT) (hb : WJ X W (.BoolOp .Or (b :: rest) pos) gT) : WJ X W (.BoolOp .Or (a :: b :: rest) pos) (tOr' fT gT) := by
  refine pw_imp (pw_or ha hb) fun σ H Q ⟨H0, O0, ρ, S, G⟩ => ⟨H0, O0, ρ, S, ?_⟩
  revert G
  unfold tOr'
  cases fT ρ with
  | stuck => exact False.elim
  | exc c => exact id
  | ok k =>
    intro G H1 s1
    cases k with
    | false => rw [if_neg Bool.false_ne_true]; exact ⟨H0, O0, ρ, S.step s1, GotT.later s1 G⟩
    | true => rw [if_pos rfl]; exact G H1 s1
/-- and, or, not as values -/
def eAn (f g : Rho → R PV) : Rho → R PV := fun ρ => (f ρ).bind fun p => (asB p).bind fun b => if b = true then g ρ else .ok (.bl false)
def eOr (f g : Rho → R PV) : Rho → R PV := fun ρ => (f ρ).bind fun p => (asB p).bind fun b => if b = true then .ok (.bl true) else g ρ
def notP : PV → R PV
  | .bl b => .ok (.bl (!b))
  | _ => .stuck
theorem e_one {op : BoolOp} (ha : EJ X W m a f) : EJ X W m (.BoolOp op [a] pos) f := pe_one ha
theorem e_and (ha : EJ X W .s a f) (hb : EJ X W .s (.BoolOp .And (b :: rest) pos) g) : EJ X W .s (.BoolOp .And (a :: b :: rest) pos) (eAn f g) := by
  refine pe_imp (pe_and ha hb) fun σ H Q ⟨H0, O0, ρ, S, G⟩ => ⟨H0, O0, ρ, S, ?_⟩
  revert G
  unfold eAn
  cases f ρ with
  | stuck => exact False.elim
  | exc c => exact id
  | ok p =>
    cases p with
    | bl k =>
      intro G v H1 s1 r1
      cases r1
      refine ⟨k, rfl, ?_⟩
      cases k with
      | true => rw [if_pos rfl]; exact ⟨H0, O0, ρ, S.step s1, Got.later s1 G⟩
      | false => rw [if_neg Bool.false_ne_true]; exact G _ H1 s1 (.bl false)
    | _ => exact False.elim
theorem e_not (ha : EJ X W .s a f) : EJ X W .s (.UnaryOp .Not a pos) (e1 notP f) := by
  refine pe_imp (pe_not ha) fun σ H Q ⟨H0, O0, ρ, S, G⟩ => ⟨H0, O0, ρ, S, ?_⟩
  revert G
  unfold e1
  cases f ρ with
  | stuck => exact False.elim
  | exc c => exact id
  | ok p =>
    cases p with
    | bl k => exact fun G v H1 s1 r1 => by cases r1; exact ⟨k, rfl, G _ H1 s1 (.bl _)⟩
    | _ => exact False.elim
def eIf (t : Rho → R Bool) (f g : Rho → R PV) : Rho → R PV := fun ρ => (t ρ).bind fun b => if b = true then f ρ else g ρ
def aNil : Rho → R (List PV) := fun _ => .ok []
def aCons (f : Rho → R PV) (g : Rho → R (List PV)) : Rho → R (List PV) := fun ρ => (f ρ).bind fun p => (g ρ).bind fun ps => .ok (p :: ps)
variable {es : List Expr} {fA : Rho → R (List PV)}
theorem a_nil : AJ X W m [] aNil := by
  refine pa_imp pa_nil fun σ H Q ⟨H0, O0, ρ, S, G⟩ => ?_
  exact G [] H (Same.refl H) .nil
theorem a_cons (ha : EJ X W m e f) (hr : AJ X W m es fA) (hs : starEach (e :: es) X.env = (false, eval e X.env) :: starEach es X.env := by rfl) : AJ X W m (e :: es) (aCons f fA) := by
  refine pa_imp (pa_cons ha hr hs) fun σ H Q ⟨H0, O0, ρ, S, G⟩ => ⟨H0, O0, ρ, S, ?_⟩
  revert G
  unfold aCons
  cases f ρ with
  | stuck => exact False.elim
  | exc c => exact id
  | ok p =>
    intro G v H1 s1 r1
    refine ⟨H0, O0, ρ, S.step s1, ?_⟩
    revert G
    rw [R.bind_ok]
    cases fA ρ with
    | stuck => exact False.elim
    | exc c => exact fun G C H' s' => G C H' (s1.trans s')
    | ok ps =>
      intro G vs H2 s2 r2
      refine G (v :: vs) H2 (s1.trans s2) (.cons (r1.step s2) ?_)
      exact Paired.mapP r2 fun _ _ z => z.back s1
theorem reps_of {K : PySem.W.Frag} {O0 : Addr → Prop} {σ : St} {ρ : Rho} {H H' : Hp} : ∀ {vs : List V} {ps : List PV}, Paired (RepM K O0 σ ρ .s H H') vs ps → Reps K H' (OO O0 σ ρ) vs ps
  | _, _, .nil => .nil
  | _, _, .cons h r => .cons h (reps_of r)
theorem reps_ofW {K : PySem.W.Frag} {O0 : Addr → Prop} {σ : St} {ρ : Rho} {H H' : Hp} : ∀ {vs : List V} {ps : List PV}, Paired (RepM K O0 σ ρ .w H H') vs ps → Reps K H' O0 vs ps
  | _, _, .nil => .nil
  | _, _, .cons h r => .cons h (reps_ofW r)
theorem same_new {H : Hp} {p : Addr} {o : HO} (h : H p = none) : Same H (upd H p o) := fun b x z => by
  rw [upd_ne (ne_of_none z h)]; exact z
def tupP (ps : List PV) : R PV := if ps.length ≤ sizeLine then .ok (.tup ps) else .stuck
def lstP (ps : List PV) : R PV := if ps.length ≤ sizeLine then .ok (.lst ps) else .stuck
def eD (g : List PV → R PV) (f : Rho → R (List PV)) : Rho → R PV := fun ρ => (f ρ).bind g
theorem new_tup {K : PySem.W.Frag} {H0 H H1 : Hp} {O0 : Addr → Prop} {σ : St} {ρ : Rho} (S : StR K H0 O0 H1 σ ρ) {vs : List V} {ps : List PV} (r : Reps K H1 (OO O0 σ ρ) vs ps) {p : Addr} (hp : H1 p = none) : Rep K (upd H1 p (.tup vs)) (OO O0 σ ρ) (.ref p) (.tup ps) :=
  .tup (.inl ⟨upd_same, fun z => S.there z hp⟩) (r.same (same_new hp))
theorem new_lst {K : PySem.W.Frag} {H0 H H1 : Hp} {O0 : Addr → Prop} {σ : St} {ρ : Rho} (s : Same H H1) {vs : List V} {ps : List PV} (r : Reps K H1 (OO O0 σ ρ) vs ps) {p : Addr} (hp : H1 p = none) : RepM K O0 σ ρ .f H (upd H1 p (.lst vs)) (.ref p) (.lst ps) :=
  ⟨p, vs, ps, rfl, rfl, s.free hp, upd_same, r.mono fun b o hb nb => ⟨same_new hp b o hb, fun z => z.elim nb fun z => by rw [z, hp] at hb; cases hb⟩⟩
theorem e_tup {k : Nat} (h : AJ X W .s es fA) : EJ X W .s (.Tuple es k pos) (eD tupP fA) := by
  refine pe_imp (pe_tup h) fun σ H Q ⟨H0, O0, ρ, S, G⟩ => ⟨H0, O0, ρ, S, ?_⟩
  revert G
  unfold eD
  cases fA ρ with
  | stuck => exact False.elim
  | exc c => exact id
  | ok ps =>
    intro G vs H1 s1 r1
    have rr := reps_of r1
    revert G
    rw [R.bind_ok]
    unfold tupP
    split
    · rename_i hz
      exact fun G => ⟨by rw [rr.length]; exact hz, fun p hp => G _ _ (s1.trans (same_new hp)) (new_tup (H := H) (S.step s1) rr hp)⟩
    · exact False.elim
theorem e_lst (h : AJ X W .s es fA) : EJ X W .f (.List es pos) (eD lstP fA) := by
  refine pe_imp (pe_lst h) fun σ H Q ⟨H0, O0, ρ, S, G⟩ => ⟨H0, O0, ρ, S, ?_⟩
  revert G
  unfold eD
  cases fA ρ with
  | stuck => exact False.elim
  | exc c => exact id
  | ok ps =>
    intro G vs H1 s1 r1
    have rr := reps_of r1
    revert G
    rw [R.bind_ok]
    unfold lstP
    split
    · rename_i hz
      exact fun G => ⟨by rw [rr.length]; exact hz, fun p hp => G _ _ (s1.trans (same_new hp)) (new_lst (H0 := H0) s1 rr hp)⟩
    · exact False.elim
theorem e_callB {x : Str} {p : Pos} {id : String} {r : List V → Hp → VK → Prop} {g' : List PV → R PV} (hc : CallR X (.builtin id) r) (hgn : ∀ ps c, g' ps ≠ .exc c) (ho : CallS X.K r m1 m g') (hg : Gl X x) (hm : X.mg x = none) (hv : bootBuiltins x = some (.builtin id)) (ha : AJ X W m1 (e :: es) fA) (hn : x ≠ "__name__" := by decide) (hdb : (x == ("__debug__" : Str)) = false := by decide)
    (he : starEach (e :: es) X.env = (false, eval e X.env) :: starEach es X.env := by rfl) (hpl : (backTo pos (starEach es X.env)).any (·.1) = false := by rfl) : EJ X W m (.Call (.Name x p) (e :: es) [] pos) (eD g' fA) := by
  refine pe_imp (pe_callB hc hg hm hv ha hn hdb he hpl) fun σ H Q ⟨H0, O0, ρ, S, G⟩ => ⟨H0, O0, ρ, S, ?_⟩
  revert G
  unfold eD
  cases fA ρ with
  | stuck => exact False.elim
  | exc c => exact fun G => G
  | ok ps => exact fun G vs H1 s1 r1 => ho S s1 r1 (Got.v (hgn ps) s1 G)
theorem e_callTy {x : Str} {p : Pos} {T : String} {r : List V → Hp → VK → Prop} {g' : List PV → R PV} (hc : CallR X (.type T) r) (hgn : ∀ ps c, g' ps ≠ .exc c) (ho : CallS X.K r m1 m g') (hg : Gl X x) (hm : X.mg x = none) (hv : bootBuiltins x = some (.type T)) (ha : AJ X W m1 (e :: es) fA) (hn : x ≠ "__name__" := by decide) (hdb : (x == ("__debug__" : Str)) = false := by decide)
    (he : starEach (e :: es) X.env = (false, eval e X.env) :: starEach es X.env := by rfl) (hpl : (backTo pos (starEach es X.env)).any (·.1) = false := by rfl) : EJ X W m (.Call (.Name x p) (e :: es) [] pos) (eD g' fA) := by
  refine pe_imp (pe_callTy hc hg hm hv ha hn hdb he hpl) fun σ H Q ⟨H0, O0, ρ, S, G⟩ => ⟨H0, O0, ρ, S, ?_⟩
  revert G
  unfold eD
  cases fA ρ with
  | stuck => exact False.elim
  | exc c => exact fun G => G
  | ok ps => exact fun G vs H1 s1 r1 => ho S s1 r1 (Got.v (hgn ps) s1 G)
def RepR (K : PySem.W.Frag) (O : Addr → Prop) : Bool → Hp → Hp → V → PV → Prop
  | false, _, H', v, p => Rep K H' O v p
  | true, H, H', v, p => ∃ a vs ps, v = .ref a ∧ p = .lst ps ∧ H a = none ∧ H' a = some (.lst vs) ∧ Reps K H' (fun b => O b ∨ b = a) vs ps
/-- the def's promise: n arguments; the function of their values; whether what it hands back is a new list -/
def spF (K : PySem.W.Frag) (mg : Str → Option Value) (n : Nat) (nw : Bool) (F : List PV → R PV) : Sp := fun vs H Q E =>
  ∃ ps O, (∀ a, O a → H a ≠ none) ∧ Reps K H O vs ps ∧ vs.length = n ∧ (match F ps with
    | .ok p => ∀ v H', Same H H' → RepR K O nw H H' v p → Q v H'
    | .exc c => ∀ C H', Same H H' → mg c = some (.ref C) → E (.ref C) none H'
    | .stuck => False)
def mdR : Bool → Md | false => .s | true => .f
theorem e_call {x : Str} {p : Pos} {k : Nat} {fa : Addr} {fd : FuncData} {pn : List Str} {n : Nat} {nw : Bool} {F : List PV → R PV} {dvs : List V} {dps : List PV} {ds : List Value} (Fo : FnOk X.prog X.w X.K X.mg X.base (L2N.CX X.prog X.w) k fa fd pn (spF X.K X.mg n nw F)) (hr : Room k X.A) (hg : Gl X x) (hm : X.mg x = some (.ref fa))
    (hk : PySem.W.keepIn X.K (.ref fa) = true) (hb : L2.Binds X.K fd pn ds) (hd : Vals dvs ds) (hdp : ∀ H O, Reps X.K H O dvs dps) (tk : L2N.Takes X W) (ha : AJ X W .s (e :: es) fA) (hlen : n = es.length + 1 + dvs.length := by rfl) (hal : ∀ ρ ps, fA ρ = .ok ps → ps.length = es.length + 1) (hdb : (x == ("__debug__" : Str)) = false := by decide)
    (he : starEach (e :: es) X.env = (false, eval e X.env) :: starEach es X.env := by rfl) (hpl : (backTo pos (starEach es X.env)).any (·.1) = false := by rfl) : EJ X W (mdR nw) (.Call (.Name x p) (e :: es) [] pos) (eD (fun ps => F (ps ++ dps)) fA) := by
  refine pe_imp (pe_callSD (E := fun σ cls d H => W cls d σ H) Fo hr hg hm hk hb hd (fun σ => L2N.passAt tk σ) ha hdb he hpl) fun σ H Q ⟨H0, O0, ρ, S, G⟩ => ⟨H0, O0, ρ, S, ?_⟩
  revert G
  unfold eD
  cases hA : fA ρ with
  | stuck => exact False.elim
  | exc c => exact id
  | ok ps =>
    intro G vs H1 s1 r1
    have rr := reps_of r1
    refine ⟨ps ++ dps, OO O0 σ ρ, fun a z => (S.step s1).there z, rr.append (hdp _ _), ?_, ?_⟩
    · rw [List.length_append, rr.length, hal ρ ps hA, hlen]
    · revert G
      rw [R.bind_ok]
      cases F (ps ++ dps) with
      | stuck => exact id
      | exc c => exact fun G C H' s' e => G C H' (s1.trans s') e
      | ok p =>
        intro G v H' s' r'
        refine G v H' (s1.trans s') ?_
        cases nw with
        | false => exact r'
        | true =>
          obtain ⟨a, vs', ps', q1, q2, q3, q4, q5⟩ := r'
          exact ⟨a, vs', ps', q1, q2, s1.free q3, q4, q5⟩
end
end PL
set_option Elab.async false
set_option linter.all false
set_option maxRecDepth 100000
set_option autoImplicit false
namespace PL
open PySem PySem.Spec L2
open PyProof.Rows hiding St
section
variable {K : PySem.W.Frag} {H0 H H1 H2 : Hp} {O0 : Addr → Prop} {σ : St} {ρ : Rho} {x : V} {p : PV}
theorem rt_int {i : Int} (r : RepM K O0 σ ρ .t H H2 x (.int i)) : x = .int i := by
  rcases r with r | ⟨_, _, _, _, e, _⟩
  · cases r; rfl
  · cases e
theorem rt_str {i : Str} (r : RepM K O0 σ ρ .t H H2 x (.str i)) : x = .str i := by
  rcases r with r | ⟨_, _, _, _, e, _⟩
  · cases r; rfl
  · cases e
theorem rt_lst {l : List PV} (r : RepM K O0 σ ρ .t H H2 x (.lst l)) : ∃ a vs, x = .ref a ∧ H2 a = some (.lst vs) ∧ Reps K H2 (OO O0 σ ρ) vs l := by
  rcases r with r | ⟨a, vs, ps, e1, e2, e3, e4⟩
  · cases r with
    | lst h _ r => exact ⟨_, _, rfl, h, r⟩
  · cases e2; exact ⟨a, vs, e1, e3, e4⟩
theorem sqT_of {O : Addr → Prop} {a : Addr} {xs : List V} (h : H a = some (.tup xs) ∧ ¬ O a ∨ KT K a xs) : SqT K H a xs := by
  rcases h with ⟨h, _⟩ | h
  · exact .inl (.inl h)
  · exact .inr h
theorem rt_tup {l : List PV} (r : RepM K O0 σ ρ .t H H2 x (.tup l)) : ∃ a vs, x = .ref a ∧ (H2 a = some (.tup vs) ∧ ¬ OO O0 σ ρ a ∨ KT K a vs) ∧ Reps K H2 (OO O0 σ ρ) vs l := by
  rcases r with r | ⟨a, vs, ps, e1, e2, e3, e4⟩
  · cases r with
    | tup h r => exact ⟨_, _, rfl, h, r⟩
  · cases e2
theorem rt_frz {l : List PV} (r : RepM K O0 σ ρ .t H H2 x (.frz l)) : ∃ (a : Addr) (ns : List Int), x = .ref a ∧ l = ns.map PV.int ∧ SqL K H2 a (ns.map V.int) := by
  rcases r with r | ⟨a, vs, ps, e1, e2, e3, e4⟩
  · generalize hl : PV.frz l = q at r
    cases r with
    | frz h =>
      cases hl
      refine ⟨_, _, rfl, rfl, ?_⟩
      rcases h with ⟨⟨o, h⟩, _⟩ | h
      · exact .inl (.inr ⟨o, h⟩)
      · exact h _
    | _ => cases hl
  · cases e2
end
def addP : PV → PV → R PV
  | .int a, .int b => .ok (.int (a + b))
  | .str a, .str b => if a.length + b.length ≤ sizeLine then .ok (.str (a ++ b)) else .stuck
  | .tup a, .tup b => if a.length + b.length ≤ sizeLine then .ok (.tup (a ++ b)) else .stuck
  | .lst a, .lst b => if a.length + b.length ≤ sizeLine then .ok (.lst (a ++ b)) else .stuck
  | _, _ => .stuck
theorem addP_exc (p q : PV) (c : Str) : addP p q ≠ .exc c := by
  unfold addP; split <;> (try split) <;> exact fun z => nomatch z
def rAddP (K : PySem.W.Frag) : R2 := fun x y H Q => rI0 (fun i j => .int (i + j)) x y H Q ∨ (∃ i j, x = .str i ∧ y = .str j ∧ i.length + j.length ≤ sizeLine ∧ Q (.str (i ++ j)) H) ∨ rCatA K x y H Q ∨ rCat x y H Q
theorem op_addP {X : Cx} : OpR X (binaryOp .Add) (rAddP X.K) := op_add.or (op_add_str.or (op_catA.or op_cat))
theorem cat_s {K : PySem.W.Frag} {H0 H H2 : Hp} {O0 : Addr → Prop} {σ : St} {ρ : Rho} {x y : V} {a b : List PV} {Q : VK} (S : StR K H0 O0 H σ ρ) (s : Same H H2) (rx : RepM K O0 σ ρ .t H H2 x (.lst a)) (ry : RepM K O0 σ ρ .t H H2 y (.lst b))
    (hz : a.length + b.length ≤ sizeLine) (G : ∀ v H', Same H2 H' → RepM K O0 σ ρ .f H H' v (.lst (a ++ b)) → Q v H') : rCat x y H2 Q := by
  obtain ⟨c, vs, rfl, h1, r1⟩ := rt_lst rx
  obtain ⟨d, ws, rfl, h2, r2⟩ := rt_lst ry
  exact ⟨c, d, vs, ws, rfl, rfl, h1, h2, by rw [r1.length, r2.length]; exact hz, fun l hl => G _ _ (same_new hl) (new_lst (H0 := H0) s (r1.append r2) hl)⟩
theorem s_addP (K : PySem.W.Frag) : OpS K (rAddP K) .t .t .s addP := by
  intro H0 O0 σ ρ H H2 x y p q Q S s rx ry G
  unfold addP at G
  split at G
  · rw [rt_int rx, rt_int ry]; exact .inl ⟨_, _, rfl, rfl, G _ _ (Same.refl _) (.int _)⟩
  · split at G
    · rename_i hz
      rw [rt_str rx, rt_str ry]; exact .inr (.inl ⟨_, _, rfl, rfl, hz, G _ _ (Same.refl _) (.str _)⟩)
    · exact G.elim
  · split at G
    · rename_i hz
      obtain ⟨c, vs, rfl, h1, r1⟩ := rt_tup rx
      obtain ⟨d, ws, rfl, h2, r2⟩ := rt_tup ry
      refine .inr (.inr (.inl ⟨c, d, vs, ws, rfl, rfl, sqT_of h1, sqT_of h2, by rw [r1.length, r2.length]; exact hz, fun e => ?_, fun _ e => ?_, fun _ _ l hl => ?_⟩))
      · subst e
        cases r1
        exact G _ _ (Same.refl _) (.tup h2 r2)
      · subst e
        cases r2
        rw [List.append_nil] at G
        exact G _ _ (Same.refl _) (.tup h1 r1)
      · exact G _ _ (same_new hl) (new_tup (H := H) (S.step s) (r1.append r2) hl)
    · exact G.elim
  · split at G
    · rename_i hz
      exact .inr (.inr (.inr (cat_s S s rx ry hz fun v H' s' r' => G v H' s' (RepM.f_s S r'))))
    · exact G.elim
  · exact G.elim
/-- an operation of two ints -/
def intP (c : Int → Int → Bool) (g : Int → Int → PV) : PV → PV → R PV
  | .int a, .int b => if c a b = true then .ok (g a b) else .stuck
  | _, _ => .stuck
theorem intP_exc {c : Int → Int → Bool} {g : Int → Int → PV} (p q : PV) (k : Str) : intP c g p q ≠ .exc k := by
  unfold intP; split <;> (try split) <;> exact fun z => nomatch z
theorem s_int {K : PySem.W.Frag} {C : Int → Int → Prop} {c : Int → Int → Bool} {gv : Int → Int → V} {g : Int → Int → PV} (hc : ∀ a b, c a b = true → C a b) (hr : ∀ H O a b, Rep K H O (gv a b) (g a b)) : OpS K (rI C gv) .t .t .s (intP c g) := by
  intro H0 O0 σ ρ H H2 x y p q Q S s rx ry G
  unfold intP at G
  split at G
  · split at G
    · rename_i hz
      rw [rt_int rx, rt_int ry]; exact ⟨_, _, rfl, rfl, hc _ _ hz, G _ _ (Same.refl _) (hr _ _ _ _)⟩
    · exact G.elim
  · exact G.elim
theorem s_int0 {K : PySem.W.Frag} {gv : Int → Int → V} {g : Int → Int → PV} (hr : ∀ H O a b, Rep K H O (gv a b) (g a b)) : OpS K (rI0 gv) .t .t .s (intP (fun _ _ => true) g) := by
  intro H0 O0 σ ρ H H2 x y p q Q S s rx ry G
  unfold intP at G
  split at G
  · rw [if_pos rfl] at G
    rw [rt_int rx, rt_int ry]; exact ⟨_, _, rfl, rfl, G _ _ (Same.refl _) (hr _ _ _ _)⟩
  · exact G.elim
abbrev subP := intP (fun _ _ => true) fun a b => .int (a - b)
abbrev okMul (a b : Int) : Bool := decide (a.natAbs.log2 + b.natAbs.log2 < 100000000)
/-- factors of together less than a hundred million bits -/
def CMulV (i j : Int) : Prop := i.natAbs.log2 + j.natAbs.log2 < 100000000
theorem CMulV.okM {i j : Int} (h : CMulV i j) : IntMulOk i j := by
  have b : ∀ y : Int, Builtin.Int.intBits y ≤ y.natAbs.log2 + 1 := fun y => by unfold Builtin.Int.intBits; split <;> omega
  have h1 := b i
  have h2 := b j
  unfold CMulV at h
  exact CMulX.ok (show CMulX i j by unfold CMulX; omega)
theorem op_mulV {X : Cx} : OpR X (binaryOp .Mult) (rI CMulV fun i j => .int (i * j)) := opI fun _ _ _ _ _ _ _ hc q => mul_int q hc.okM
abbrev mulP := intP okMul fun a b => .int (a * b)
abbrev okDiv (_ b : Int) : Bool := decide (b ≠ 0) && decide (b.natAbs.log2 < 9000)
abbrev fdivP := intP okDiv fun a b => .int (a.fdiv b)
abbrev modP := intP (fun _ b => decide (b ≠ 0)) fun a b => .int (a.fmod b)
abbrev okPow (a b : Int) : Bool := decide (0 ≤ b) && decide (b ≤ 1000000) && decide (a.natAbs < 2 ^ 64)
abbrev powP := intP okPow fun a b => .int (a ^ b.toNat)
abbrev ltP := intP (fun _ _ => true) fun a b => .bl (decide (a < b))
abbrev leP := intP (fun _ _ => true) fun a b => .bl (decide (a ≤ b))
abbrev gtP := intP (fun _ _ => true) fun a b => .bl (decide (b < a))
abbrev geP := intP (fun _ _ => true) fun a b => .bl (decide (b ≤ a))
def CDivA (i j : Int) : Prop := j ≠ 0 ∧ j.natAbs.log2 < 9000
theorem op_fdivA {X : Cx} : OpR X (binaryOp .FloorDiv) (rI CDivA fun i j => .int (i.fdiv j)) := opI fun i j _ _ _ _ _ hc q => floordiv_int hc.1 q (.inl (PyProof.noPylong_of_log2 hc.2))
theorem okDiv_C (a b : Int) (h : okDiv a b = true) : CDivA a b := by
  rw [Bool.and_eq_true, decide_eq_true_eq, decide_eq_true_eq] at h; exact h
theorem okPow_C (a b : Int) (h : okPow a b = true) : CPow a b := by
  rw [Bool.and_eq_true, Bool.and_eq_true, decide_eq_true_eq, decide_eq_true_eq, decide_eq_true_eq] at h; exact ⟨h.1.1, h.1.2, h.2⟩
section
variable {X : Cx} {W : WX} {e a b c : Expr} {pos : Pos} {m : Md} {f g h : Rho → R PV}
theorem e_add (ha : EJ X W .t a f) (hb : EJ X W .t b g) : EJ X W .s (.BinOp a .Add b pos) (e2 addP f g) := e_op op_addP addP_exc (s_addP _) ha hb
theorem e_sub (ha : EJ X W .t a f) (hb : EJ X W .t b g) : EJ X W .s (.BinOp a .Sub b pos) (e2 subP f g) := e_op op_sub intP_exc (s_int0 fun _ _ _ _ => .int _) ha hb
theorem e_mul (ha : EJ X W .t a f) (hb : EJ X W .t b g) : EJ X W .s (.BinOp a .Mult b pos) (e2 mulP f g) := e_op op_mulV intP_exc (s_int (fun _ _ h => of_decide_eq_true h) fun _ _ _ _ => .int _) ha hb
theorem e_fdiv (ha : EJ X W .t a f) (hb : EJ X W .t b g) : EJ X W .s (.BinOp a .FloorDiv b pos) (e2 fdivP f g) := e_op op_fdivA intP_exc (s_int okDiv_C fun _ _ _ _ => .int _) ha hb
theorem e_mod (ha : EJ X W .t a f) (hb : EJ X W .t b g) : EJ X W .s (.BinOp a .Mod b pos) (e2 modP f g) := e_op op_modN intP_exc (s_int (fun _ _ h => of_decide_eq_true h) fun _ _ _ _ => .int _) ha hb
theorem e_pow (ha : EJ X W .t a f) (hb : EJ X W .t b g) : EJ X W .s (.BinOp a .Pow b pos) (e2 powP f g) := e_op op_pow intP_exc (s_int okPow_C fun _ _ _ _ => .int _) ha hb
theorem e_gt (ha : EJ X W .t a f) (hb : EJ X W .t b g) : EJ X W .s (.Compare a [.Gt] [b] pos) (e2 gtP f g) := e_cmp op_gt intP_exc (s_int0 fun _ _ _ _ => .bl _) ha hb (nomark _)
theorem t_lt (ha : EJ X W .t a f) (hb : EJ X W .t b g) : TJ X W (.Compare a [.Lt] [b] pos) (tB1 (e2 ltP f g)) := t_cmp op_lt intP_exc (s_int0 fun _ _ _ _ => .bl _) ha hb (nomark _)
theorem t_gt (ha : EJ X W .t a f) (hb : EJ X W .t b g) : TJ X W (.Compare a [.Gt] [b] pos) (tB1 (e2 gtP f g)) := t_cmp op_gt intP_exc (s_int0 fun _ _ _ _ => .bl _) ha hb (nomark _)
def negP : PV → R PV
  | .int a => .ok (.int (-a))
  | _ => .stuck
theorem e_neg (ha : EJ X W .t a f) : EJ X W .s (.UnaryOp .USub a pos) (e1 negP f) := by
  refine e_un un_neg (fun p c => ?_) ?_ ha
  · unfold negP; split <;> exact fun z => nomatch z
  · intro H0 O0 σ ρ H H2 x p Q S s rx G
    unfold negP at G
    split at G
    · rw [rt_int rx]; exact ⟨_, rfl, G _ _ (Same.refl _) (.int _)⟩
    · exact G.elim
end
mutual
def toD : PV → PyData
  | .non => .none
  | .bl b => .bool b
  | .int i => .int i
  | .str s => .str s
  | .tup l => .tuple (toDs l)
  | .lst l => .list (toDs l)
  | .frz l => .list (toDs l)
  | .dct => .dict []
def toDs : List PV → List PyData
  | [] => []
  | p :: ps => toD p :: toDs ps
end
mutual
def eqV' : PV → PV → Bool
  | .non, .non => true
  | .bl a, .bl b => a == b
  | .bl a, .int j => (if a then 1 else 0) == j
  | .int i, .bl b => i == (if b then 1 else 0)
  | .int i, .int j => i == j
  | .str x, .str y => x == y
  | .lst xs, .lst ys => eqVs xs ys
  | .lst xs, .frz ys => eqVs xs ys
  | .frz xs, .lst ys => eqVs xs ys
  | .frz xs, .frz ys => eqVs xs ys
  | .tup xs, .tup ys => eqVs xs ys
  | _, _ => false
def eqVs : List PV → List PV → Bool
  | [], [] => true
  | x :: xs, y :: ys => eqV' x y && eqVs xs ys
  | _, _ => false
end
/-- data that may be compared, by how deep it is -/
def okD : Nat → PV → Bool
  | _, .non => true
  | _, .bl _ => true
  | _, .int _ => true
  | _, .str s => PySem.PyData.strOk s
  | n + 1, .tup l => l.all (okD n)
  | n + 1, .lst l => l.all (okD n)
  | n + 1, .frz l => l.all (okD n)
  | _, _ => false
def eqP (p q : PV) : R PV := if (okD 30 p && okD 30 q) = true then .ok (.bl (eqV' p q)) else .stuck
def neP (p q : PV) : R PV := if (okD 30 p && okD 30 q) = true then .ok (.bl (!eqV' p q)) else .stuck
mutual
theorem eqv_toD : ∀ p q : PV, PyData.eqv (toD p) (toD q) = eqV' p q
  | .lst a, .lst b | .lst a, .frz b | .frz a, .lst b | .frz a, .frz b | .tup a, .tup b => by simp only [toD, PyData.eqv, eqV', eqv_toDs a b]
  | .non, q | .bl _, q | .int _, q | .str _, q | .dct, q => by cases q <;> simp only [toD, PyData.eqv, eqV']
  | .lst a, .non | .lst a, .bl _ | .lst a, .int _ | .lst a, .str _ | .lst a, .tup _ | .lst a, .dct => by simp only [toD, PyData.eqv, eqV']
  | .frz a, .non | .frz a, .bl _ | .frz a, .int _ | .frz a, .str _ | .frz a, .tup _ | .frz a, .dct => by simp only [toD, PyData.eqv, eqV']
  | .tup a, .non | .tup a, .bl _ | .tup a, .int _ | .tup a, .str _ | .tup a, .lst _ | .tup a, .frz _ | .tup a, .dct => by simp only [toD, PyData.eqv, eqV']
theorem eqv_toDs : ∀ p q : List PV, PyData.eqvAll (toDs p) (toDs q) = eqVs p q
  | [], [] => by simp only [toDs, PyData.eqvAll, eqVs]
  | x :: xs, y :: ys => by simp only [toDs, PyData.eqvAll, eqVs, eqv_toD x y, eqv_toDs xs ys]
  | [], _ :: _ => by simp only [toDs, PyData.eqvAll, eqVs]
  | _ :: _, [] => by simp only [toDs, PyData.eqvAll, eqVs]
end
mutual
theorem okD_lay : ∀ (n : Nat) (p : PV), okD n p = true → (toD p).canLay0 = true ∧ (toD p).depth ≤ n
  | n, .non, _ => ⟨rfl, Nat.zero_le _⟩
  | n, .bl _, _ => ⟨rfl, Nat.zero_le _⟩
  | n, .int _, _ => ⟨rfl, Nat.zero_le _⟩
  | n, .str s, h => ⟨by simpa only [toD, PyData.canLay0, okD] using h, Nat.zero_le _⟩
  | n, .dct, h => by simp [okD] at h
  | 0, .tup l, h => by simp [okD] at h
  | 0, .lst l, h => by simp [okD] at h
  | 0, .frz l, h => by simp [okD] at h
  | n + 1, .tup l, h => by
    have z := okDs_lay n l (by simpa only [okD] using h)
    simp only [toD, PyData.canLay0, PyData.depth]
    exact ⟨z.1, by omega⟩
  | n + 1, .lst l, h => by
    have z := okDs_lay n l (by simpa only [okD] using h)
    simp only [toD, PyData.canLay0, PyData.depth]
    exact ⟨z.1, by omega⟩
  | n + 1, .frz l, h => by
    have z := okDs_lay n l (by simpa only [okD] using h)
    simp only [toD, PyData.canLay0, PyData.depth]
    exact ⟨z.1, by omega⟩
theorem okDs_lay : ∀ (n : Nat) (l : List PV), l.all (okD n) = true → PyData.canLayAll0 (toDs l) = true ∧ PyData.depthAll (toDs l) ≤ n
  | n, [], _ => ⟨rfl, Nat.zero_le _⟩
  | n, p :: ps, h => by
    rw [List.all_cons, Bool.and_eq_true] at h
    have z1 := okD_lay n p h.1
    have z2 := okDs_lay n ps h.2
    simp only [toDs, PyData.canLayAll0, PyData.depthAll, z1.1, z2.1]
    exact ⟨rfl, Nat.max_le.mpr ⟨z1.2, z2.2⟩⟩
end
theorem okD_shaped {p : PV} (h : okD 30 p = true) : SeqAt.shaped (toD p) = true := by
  have z := okD_lay 30 p h
  unfold SeqAt.shaped
  rw [z.1, decide_eq_true (show (toD p).depth ≤ 64 by omega)] <;> rfl
theorem dpAll_ints {K : PySem.W.Frag} {H : Hp} : ∀ ns : List Int, DpAll K H (ns.map V.int) (toDs (ns.map PV.int))
  | [] => by simp only [List.map_nil, toDs]; exact .nil
  | n :: ns => by simp only [List.map_cons, toDs, toD]; exact .cons (.int n) (dpAll_ints ns)
mutual
theorem rep_dp {K : PySem.W.Frag} {H : Hp} {O : Addr → Prop} : ∀ {v : V} {p : PV} (n : Nat), Rep K H O v p → okD n p = true → Dp K H v (toD p)
  | _, _, _, .non, _ => by simp only [toD]; exact .non
  | _, _, _, .bl b, _ => by simp only [toD]; exact .bl b
  | _, _, _, .int i, _ => by simp only [toD]; exact .int i
  | _, _, _, .str s, _ => by simp only [toD]; exact .str s
  | _, _, 0, .lst _ _ _, h => by simp [okD] at h
  | _, _, n + 1, .lst h1 _ r, h => by simp only [toD]; exact .lst (.inl (.inl h1)) (reps_dp n r (by simpa only [okD] using h))
  | _, _, 0, .tup _ _, h => by simp [okD] at h
  | _, _, n + 1, .tup h1 r, h => by simp only [toD]; exact .tup (sqT_of h1) (reps_dp n r (by simpa only [okD] using h))
  | _, _, _, .frz h1, h => by
    simp only [toD]
    refine .lst ?_ (dpAll_ints _)
    rcases h1 with ⟨⟨o, h1⟩, _⟩ | h1
    · exact .inl (.inr ⟨o, h1⟩)
    · exact h1 _
  | _, _, n, .dct _ _, h => by simp [okD] at h
theorem reps_dp {K : PySem.W.Frag} {H : Hp} {O : Addr → Prop} : ∀ {v : List V} {p : List PV} (n : Nat), Reps K H O v p → p.all (okD n) = true → DpAll K H v (toDs p)
  | _, _, _, .nil, _ => by simp only [toDs]; exact .nil
  | _, _, n, .cons h r, hz => by
    rw [List.all_cons, Bool.and_eq_true] at hz
    simp only [toDs]
    exact .cons (rep_dp n h hz.1) (reps_dp n r hz.2)
end
theorem rt_dp {K : PySem.W.Frag} {H H2 : Hp} {O0 : Addr → Prop} {σ : St} {ρ : Rho} {x : V} {p : PV} (r : RepM K O0 σ ρ .t H H2 x p) (h : okD 30 p = true) : Dp K H2 x (toD p) := by
  rcases r with r | ⟨a, vs, ps, rfl, rfl, e3, e4⟩
  · exact rep_dp 30 r h
  · simp only [toD]; exact .lst (.inl (.inl e3)) (reps_dp 29 e4 (by simpa only [okD] using h))
theorem eqP_exc (p q : PV) (c : Str) : eqP p q ≠ .exc c := by unfold eqP; split <;> exact fun z => nomatch z
theorem neP_exc (p q : PV) (c : Str) : neP p q ≠ .exc c := by unfold neP; split <;> exact fun z => nomatch z
theorem s_eq (K : PySem.W.Frag) : OpS K (rEqD K) .t .t .s eqP := by
  intro H0 O0 σ ρ H H2 x y p q Q S s rx ry G
  unfold eqP at G
  split at G
  · rename_i hz
    rw [Bool.and_eq_true] at hz
    exact ⟨_, _, rt_dp rx hz.1, rt_dp ry hz.2, okD_shaped hz.1, okD_shaped hz.2, by rw [eqv_toD]; exact G _ _ (Same.refl _) (.bl _)⟩
  · exact G.elim
theorem s_ne (K : PySem.W.Frag) : OpS K (rNeD K) .t .t .s neP := by
  intro H0 O0 σ ρ H H2 x y p q Q S s rx ry G
  unfold neP at G
  split at G
  · rename_i hz
    rw [Bool.and_eq_true] at hz
    exact ⟨_, _, rt_dp rx hz.1, rt_dp ry hz.2, okD_shaped hz.1, okD_shaped hz.2, by rw [eqv_toD]; exact G _ _ (Same.refl _) (.bl _)⟩
  · exact G.elim
section
variable {X : Cx} {W : WX} {e a b c : Expr} {pos : Pos} {m : Md} {f g h : Rho → R PV}
theorem e_eq (hu : X.A.units + 64 < cLine) (ha : EJ X W .t a f) (hb : EJ X W .t b g) : EJ X W .s (.Compare a [.Eq] [b] pos) (e2 eqP f g) := e_cmp (op_eqD hu) eqP_exc (s_eq _) ha hb (nomark _)
theorem e_ne (hu : X.A.units + 64 < cLine) (ha : EJ X W .t a f) (hb : EJ X W .t b g) : EJ X W .s (.Compare a [.NotEq] [b] pos) (e2 neP f g) := e_cmp (op_neD hu) neP_exc (s_ne _) ha hb (nomark _)
theorem t_eq (hu : X.A.units + 64 < cLine) (ha : EJ X W .t a f) (hb : EJ X W .t b g) : TJ X W (.Compare a [.Eq] [b] pos) (tB1 (e2 eqP f g)) := t_cmp (op_eqD hu) eqP_exc (s_eq _) ha hb (nomark _)
theorem t_ne (hu : X.A.units + 64 < cLine) (ha : EJ X W .t a f) (hb : EJ X W .t b g) : TJ X W (.Compare a [.NotEq] [b] pos) (tB1 (e2 neP f g)) := t_cmp (op_neD hu) neP_exc (s_ne _) ha hb (nomark _)
def eChain (g1 g2 : PV → PV → R PV) (f g h : Rho → R PV) : Rho → R PV := fun ρ => (f ρ).bind fun x => (g ρ).bind fun y => (g1 x y).bind fun z => (asB z).bind fun k => if k = true then (h ρ).bind fun w => g2 y w else .ok (.bl false)
end
end PL
set_option Elab.async false
set_option linter.all false
set_option maxRecDepth 100000
set_option autoImplicit false
namespace PL
open PySem PySem.Spec L2
open PyProof.Rows hiding St
def ixP : PV → PV → R PV
  | .lst l, .int i | .tup l, .int i | .frz l, .int i => match atI l i with
    | some p => .ok p
    | none => .stuck
  | .str s, .int i => if s.length ≤ sizeLine then (match atI s.cps.toList i with
    | some c => .ok (.str ⟨#[c]⟩)
    | none => .stuck) else .stuck
  | _, _ => .stuck
theorem ixP_exc (p q : PV) (c : Str) : ixP p q ≠ .exc c := by
  unfold ixP; split <;> (try split) <;> (try split) <;> exact fun z => nomatch z
theorem reps_at {K : PySem.W.Frag} {H : Hp} {O : Addr → Prop} {vs : List V} {ps : List PV} {i : Int} {p : PV} (r : Reps K H O vs ps) (h : atI ps i = some p) : ∃ v, atI vs i = some v ∧ Rep K H O v p := by
  unfold atI at h ⊢
  rw [r.length]
  cases q : ixN ps.length i with
  | none => rw [q] at h; cases h
  | some j =>
    rw [q, Option.bind_some] at h
    rw [Option.bind_some]
    exact r.get h
theorem s_ix (K : PySem.W.Frag) : OpS K (rIx K) .t .t .s ixP := by
  intro H0 O0 σ ρ H H2 x y p q Q S s rx ry G
  unfold ixP at G
  split at G
  · split at G
    · rename_i p hp
      obtain ⟨a, vs, rfl, h1, r1⟩ := rt_lst rx
      obtain ⟨v, h2, r2⟩ := reps_at r1 hp
      exact .inl ⟨a, vs, _, v, rfl, rt_int ry, .inl (.inl h1), h2, G _ _ (Same.refl _) r2⟩
    · exact G.elim
  · split at G
    · rename_i p hp
      obtain ⟨a, vs, rfl, h1, r1⟩ := rt_tup rx
      obtain ⟨v, h2, r2⟩ := reps_at r1 hp
      exact .inr (.inl ⟨a, vs, _, v, rfl, rt_int ry, sqT_of h1, h2, G _ _ (Same.refl _) r2⟩)
    · exact G.elim
  · split at G
    · rename_i p hp
      obtain ⟨a, ns, rfl, rfl, h1⟩ := rt_frz rx
      obtain ⟨v, h2, r2⟩ := reps_at (K := K) (H := H2) (O := OO O0 σ ρ) (Reps.ofInts ns) hp
      exact .inl ⟨a, _, _, v, rfl, rt_int ry, h1, h2, G _ _ (Same.refl _) r2⟩
    · exact G.elim
  · split at G
    · rename_i hz
      split at G
      · rename_i c hc
        exact .inr (.inr ⟨_, _, c, rt_str rx, rt_int ry, hz, hc, G _ _ (Same.refl _) (.str _)⟩)
      · exact G.elim
    · exact G.elim
  · exact G.elim
def cutG {α : Type} (xs : List α) (lo hi : Option Int) : List α := (xs.drop (HT.sIx xs.length 0 lo)).take (HT.sIx xs.length xs.length hi - HT.sIx xs.length 0 lo)
theorem reps_cut {K : PySem.W.Frag} {H : Hp} {O : Addr → Prop} {vs : List V} {ps : List PV} (lo hi : Option Int) (r : Reps K H O vs ps) : Reps K H O (cutV vs lo hi) (cutG ps lo hi) := by
  unfold cutV cutG
  rw [r.length]
  exact (r.drop _).take _
def slP (p : PV) (lo hi : Option Int) : R PV := match p with
  | .lst l | .frz l => .ok (.lst (cutG l lo hi))
  | .tup l => .ok (.tup (cutG l lo hi))
  | .str s => if s.length ≤ sizeLine then .ok (.str (cutS s lo hi)) else .stuck
  | _ => .stuck
def slL (p : PV) (lo hi : Option Int) : R PV := match p with
  | .lst l | .frz l => .ok (.lst (cutG l lo hi))
  | _ => .stuck
def asI : PV → R Int
  | .int i => .ok i
  | _ => .stuck
def oNone : Rho → R (Option Int) := fun _ => .ok none
def oSome (f : Rho → R PV) : Rho → R (Option Int) := fun ρ => (f ρ).bind fun p => (asI p).bind fun i => .ok (some i)
def eSl (g : PV → Option Int → Option Int → R PV) (f : Rho → R PV) (lo hi : Rho → R (Option Int)) : Rho → R PV := fun ρ => (f ρ).bind fun p => (lo ρ).bind fun l => (hi ρ).bind fun h => g p l h
def tO' (K : PySem.W.Frag) (mg : Str → Option Value) (W : WX) (f : Rho → R (Option Int)) : L2.TO := fun σ H Q =>
  ∃ H0 O0 ρ, StR K H0 O0 H σ ρ ∧ (match f ρ with
    | .ok o => ∀ H', Same H H' → Q o H'
    | .exc c => ∀ C H', Same H H' → mg c = some (.ref C) → W (.ref C) none σ H'
    | .stuck => False)
abbrev OJ (X : Cx) (W : WX) (e : Option Expr) (f : Rho → R (Option Int)) : Prop := PO X e (tO' X.K X.mg W f)
def SlS (K : PySem.W.Frag) (r : V → Option Int → Option Int → Hp → VK → Prop) (m : Md) (g : PV → Option Int → Option Int → R PV) : Prop :=
  ∀ {H0 O0 σ ρ H H2 x p lo hi} {Q : VK}, StR K H0 O0 H σ ρ → Same H H2 → RepM K O0 σ ρ .t H H2 x p → GotV K O0 σ ρ m H H2 Q (g p lo hi) → r x lo hi H2 Q
section
variable {X : Cx} {W : WX} {e a b c : Expr} {pos p2 : Pos} {m : Md} {f g h : Rho → R PV} {lo hi : Option Expr} {fl fh : Rho → R (Option Int)}
theorem po_imp {t t' : L2.TO} {e : Option Expr} (h : PO X e t) (q : ∀ σ H Q, t' σ H Q → t σ H Q) : PO X e t' := ⟨fun pins s σ H Q I hw => h.run pins s σ H Q I (q σ H Q hw)⟩
theorem o_none : OJ X W none oNone := by
  refine po_imp po_none fun σ H Q ⟨H0, O0, ρ, S, G⟩ => ?_
  exact G H (Same.refl H)
theorem o_some (ha : EJ X W .s e f) : OJ X W (some e) (oSome f) := by
  refine po_imp (po_some ha) fun σ H Q ⟨H0, O0, ρ, S, G⟩ => ⟨H0, O0, ρ, S, ?_⟩
  revert G
  unfold oSome
  cases f ρ with
  | stuck => exact False.elim
  | exc c => exact fun G => G
  | ok p =>
    cases p with
    | int i => exact fun G v H' s r => by cases r; exact ⟨i, rfl, G H' s⟩
    | _ => exact False.elim
theorem e_sl {r : V → Option Int → Option Int → Hp → VK → Prop} {g' : PV → Option Int → Option Int → R PV} (hr : SlR X r) (hg : ∀ p l h c, g' p l h ≠ .exc c) (ho : SlS X.K r m g') (ha : EJ X W .t a f) (hl : OJ X W lo fl) (hh : OJ X W hi fh) :
    EJ X W m (.Subscript a (.Slice lo hi none p2) pos) (eSl g' f fl fh) := by
  refine pe_imp (pe_slice hr ha hl hh) fun σ H Q ⟨H0, O0, ρ, S, G⟩ => ⟨H0, O0, ρ, S, ?_⟩
  revert G
  unfold eSl
  cases f ρ with
  | stuck => exact False.elim
  | exc c => exact fun G => G
  | ok p =>
    intro G x H1 s1 r1
    refine ⟨H0, O0, ρ, S.step s1, ?_⟩
    revert G
    rw [R.bind_ok]
    cases fl ρ with
    | stuck => exact False.elim
    | exc c => exact fun G C H' s' => G C H' (s1.trans s')
    | ok l =>
      intro G H2 s2
      refine ⟨H0, O0, ρ, S.step (s1.trans s2), ?_⟩
      revert G
      rw [R.bind_ok]
      cases fh ρ with
      | stuck => exact False.elim
      | exc c => exact fun G C H' s' => G C H' ((s1.trans s2).trans s')
      | ok h =>
        intro G H3 s3
        exact ho S ((s1.trans s2).trans s3) (r1.step (s2.trans s3)) (Got.v (hg p l h) ((s1.trans s2).trans s3) G)
def rSlP (K : PySem.W.Frag) : V → Option Int → Option Int → Hp → VK → Prop := fun x lo hi H Q => rSlL K x lo hi H Q ∨ rSlA K x lo hi H Q ∨ rSlS x lo hi H Q
theorem sl_P : SlR X (rSlP X.K) := sl_list.or (sl_tupA.or sl_str)
theorem slP_exc (p : PV) (l h : Option Int) (c : Str) : slP p l h ≠ .exc c := by
  unfold slP; split <;> (try split) <;> exact fun z => nomatch z
theorem slL_exc (p : PV) (l h : Option Int) (c : Str) : slL p l h ≠ .exc c := by
  unfold slL; split <;> exact fun z => nomatch z
theorem sl_ints (ns : List Int) (lo hi : Option Int) : cutV (ns.map V.int) lo hi = (cutG ns lo hi).map V.int ∧ cutG (ns.map PV.int) lo hi = (cutG ns lo hi).map PV.int := by
  unfold cutV cutG
  rw [List.length_map, List.length_map, List.map_take, List.map_drop, List.map_take, List.map_drop]
  exact ⟨rfl, rfl⟩
theorem s_slL (K : PySem.W.Frag) : SlS K (rSlL K) .f slL := by
  intro H0 O0 σ ρ H H2 x p lo hi Q S s rx G
  unfold slL at G
  split at G
  · obtain ⟨a, vs, rfl, h1, r1⟩ := rt_lst rx
    exact ⟨a, vs, rfl, .inl (.inl h1), fun q hq => G _ _ (same_new hq) (new_lst (H0 := H0) s (reps_cut lo hi r1) hq)⟩
  · obtain ⟨a, ns, rfl, rfl, h1⟩ := rt_frz rx
    refine ⟨a, _, rfl, h1, fun q hq => G _ _ (same_new hq) ?_⟩
    rw [(sl_ints ns lo hi).1, (sl_ints ns lo hi).2]
    exact new_lst (H0 := H0) s (Reps.ofInts _) hq
  · exact G.elim
theorem s_slP (K : PySem.W.Frag) : SlS K (rSlP K) .s slP := by
  intro H0 O0 σ ρ H H2 x p lo hi Q S s rx G
  unfold slP at G
  split at G
  · exact .inl (s_slL K S s rx fun v H' s' r => G v H' s' (RepM.f_s S r))
  · exact .inl (s_slL K S s rx fun v H' s' r => G v H' s' (RepM.f_s S r))
  · obtain ⟨a, vs, rfl, h1, r1⟩ := rt_tup rx
    refine .inr (.inl ⟨a, vs, rfl, sqT_of h1, fun ⟨z1, z2⟩ => ?_, fun _ q hq => G _ _ (same_new hq) (new_tup (H := H) (S.step s) (reps_cut lo hi r1) hq)⟩)
    have e : ∀ {α : Type} (l : List α), l.length = vs.length → cutG l lo hi = l := fun l hl => by
      unfold cutG
      rw [hl, z1, z2, List.drop_zero, Nat.sub_zero, ← hl, List.take_length]
    rw [e _ r1.length.symm] at G
    exact G _ _ (Same.refl _) (.tup h1 r1)
  · split at G
    · rename_i hz
      exact .inr (.inr ⟨_, rt_str rx, hz, G _ _ (Same.refl _) (.str _)⟩)
    · exact G.elim
  · exact G.elim
theorem e_slice (ha : EJ X W .t a f) (hl : OJ X W lo fl) (hh : OJ X W hi fh) : EJ X W .s (.Subscript a (.Slice lo hi none p2) pos) (eSl slP f fl fh) := e_sl sl_P slP_exc (s_slP _) ha hl hh
theorem e_sliceL (ha : EJ X W .t a f) (hl : OJ X W lo fl) (hh : OJ X W hi fh) : EJ X W .f (.Subscript a (.Slice lo hi none p2) pos) (eSl slL f fl fh) := e_sl sl_list slL_exc (s_slL _) ha hl hh
theorem e_item (ha : EJ X W .t a f) (hb : EJ X W .t b g) (hs : PlainIx b) : EJ X W .s (.Subscript a b pos) (e2 ixP f g) := e_ix ix_seq ixP_exc (s_ix _) ha hb hs
end
def lenP : List PV → R PV
  | [.lst l] | [.tup l] | [.frz l] => .ok (.int l.length)
  | [.str s] => if s.length ≤ sizeLine then .ok (.int s.length) else .stuck
  | _ => .stuck
def absP : List PV → R PV
  | [.int i] => .ok (.int (if i < 0 then -i else i))
  | _ => .stuck
def maxP : List PV → R PV
  | [.int i, .int j] => .ok (.int (if j > i then j else i))
  | _ => .stuck
def minP : List PV → R PV
  | [.int i, .int j] => .ok (.int (if j < i then j else i))
  | _ => .stuck
def listP : List PV → R PV
  | [.lst l] | [.tup l] | [.frz l] => .ok (.lst l)
  | _ => .stuck
def tupleP : List PV → R PV
  | [.lst l] | [.tup l] | [.frz l] => .ok (.tup l)
  | _ => .stuck
def asBs : List PV → Option (List Bool)
  | [] => some []
  | .bl b :: r => (asBs r).map (b :: ·)
  | _ => none
def allP : List PV → R PV
  | [.lst l] => match asBs l with
    | some bs => .ok (.bl (bs.all id))
    | none => .stuck
  | _ => .stuck
theorem asBs_map : ∀ {l : List PV} {bs : List Bool}, asBs l = some bs → l = bs.map PV.bl
  | [], _, h => by cases h; rfl
  | .bl b :: r, bs, h => by
    unfold asBs at h
    obtain ⟨cs, h1, rfl⟩ := Option.map_eq_some_iff.mp h
    rw [asBs_map h1]; rfl
  | .non :: _, _, h | .int _ :: _, _, h | .str _ :: _, _, h | .tup _ :: _, _, h | .lst _ :: _, _, h | .frz _ :: _, _, h | .dct :: _, _, h => by simp [asBs] at h
theorem asBs_of : ∀ bs : List Bool, asBs (bs.map PV.bl) = some bs
  | [] => rfl
  | b :: bs => by simp [asBs, asBs_of bs]
section
variable {X : Cx} {W : WX}
theorem pr1 {F : V → PV → Prop} {vs : List V} {p : PV} (h : Paired F vs [p]) : ∃ v, vs = [v] ∧ F v p := by
  cases h with
  | cons a r => cases r; exact ⟨_, rfl, a⟩
theorem pr2 {F : V → PV → Prop} {vs : List V} {p q : PV} (h : Paired F vs [p, q]) : ∃ v w, vs = [v, w] ∧ F v p ∧ F w q := by
  cases h with
  | cons a r =>
    obtain ⟨w, rfl, b⟩ := pr1 r
    exact ⟨_, _, rfl, a, b⟩
theorem s_len (K : PySem.W.Frag) : CallS K (fun xs H Q => ∃ x n, xs = [x] ∧ LenV K x H n ∧ Q (.int n) H) .t .s lenP := by
  intro H0 O0 σ ρ H H2 xs ps Q S s r G
  unfold lenP at G
  split at G
  · obtain ⟨v, rfl, r1⟩ := pr1 r
    obtain ⟨a, vs, rfl, h1, r2⟩ := rt_lst r1
    exact ⟨_, vs.length, rfl, .inl ⟨vs, .inl (.inl h1), rfl⟩, by rw [r2.length]; exact G _ _ (Same.refl _) (.int _)⟩
  · obtain ⟨v, rfl, r1⟩ := pr1 r
    obtain ⟨a, vs, rfl, h1, r2⟩ := rt_tup r1
    exact ⟨_, vs.length, rfl, .inr ⟨vs, sqT_of h1, rfl⟩, by rw [r2.length]; exact G _ _ (Same.refl _) (.int _)⟩
  · obtain ⟨v, rfl, r1⟩ := pr1 r
    obtain ⟨a, ns, rfl, rfl, h1⟩ := rt_frz r1
    refine ⟨_, _, rfl, .inl ⟨_, h1, rfl⟩, ?_⟩
    rw [List.length_map] at G ⊢
    exact G _ _ (Same.refl _) (.int _)
  · split at G
    · rename_i hz
      obtain ⟨v, rfl, r1⟩ := pr1 r
      rw [rt_str r1]
      exact ⟨_, _, rfl, ⟨hz, rfl⟩, G _ _ (Same.refl _) (.int _)⟩
    · exact G.elim
  · exact G.elim
theorem s_abs (K : PySem.W.Frag) : CallS K (fun xs H Q => ∃ i, xs = [.int i] ∧ Q (.int (if i < 0 then -i else i)) H) .t .s absP := by
  intro H0 O0 σ ρ H H2 xs ps Q S s r G
  unfold absP at G
  split at G
  · obtain ⟨v, rfl, r1⟩ := pr1 r
    rw [rt_int r1]; exact ⟨_, rfl, G _ _ (Same.refl _) (.int _)⟩
  · exact G.elim
theorem s_max (K : PySem.W.Frag) : CallS K (fun xs H Q => ∃ i j, xs = [.int i, .int j] ∧ Q (.int (if j > i then j else i)) H) .t .s maxP := by
  intro H0 O0 σ ρ H H2 xs ps Q S s r G
  unfold maxP at G
  split at G
  · obtain ⟨v, w, rfl, r1, r2⟩ := pr2 r
    rw [rt_int r1, rt_int r2]; exact ⟨_, _, rfl, G _ _ (Same.refl _) (.int _)⟩
  · exact G.elim
theorem s_min (K : PySem.W.Frag) : CallS K (fun xs H Q => ∃ i j, xs = [.int i, .int j] ∧ Q (.int (if j < i then j else i)) H) .t .s minP := by
  intro H0 O0 σ ρ H H2 xs ps Q S s r G
  unfold minP at G
  split at G
  · obtain ⟨v, w, rfl, r1, r2⟩ := pr2 r
    rw [rt_int r1, rt_int r2]; exact ⟨_, _, rfl, G _ _ (Same.refl _) (.int _)⟩
  · exact G.elim
theorem s_list (K : PySem.W.Frag) : CallS K (fun xs H Q => ∃ p ys, xs = [.ref p] ∧ (SqL K H p ys ∨ SqT K H p ys) ∧ ∀ l, H l = none → Q (.ref l) (upd H l (.lst ys))) .t .f listP := by
  intro H0 O0 σ ρ H H2 xs ps Q S s r G
  unfold listP at G
  split at G
  · obtain ⟨v, rfl, r1⟩ := pr1 r
    obtain ⟨a, vs, rfl, h1, r2⟩ := rt_lst r1
    exact ⟨a, vs, rfl, .inl (.inl (.inl h1)), fun l hl => G _ _ (same_new hl) (new_lst (H0 := H0) s r2 hl)⟩
  · obtain ⟨v, rfl, r1⟩ := pr1 r
    obtain ⟨a, vs, rfl, h1, r2⟩ := rt_tup r1
    exact ⟨a, vs, rfl, .inr (sqT_of h1), fun l hl => G _ _ (same_new hl) (new_lst (H0 := H0) s r2 hl)⟩
  · obtain ⟨v, rfl, r1⟩ := pr1 r
    obtain ⟨a, ns, rfl, rfl, h1⟩ := rt_frz r1
    exact ⟨a, _, rfl, .inl h1, fun l hl => G _ _ (same_new hl) (new_lst (H0 := H0) s (Reps.ofInts ns) hl)⟩
  · exact G.elim
theorem s_all (K : PySem.W.Frag) : CallS K (rAll K) .t .s allP := by
  intro H0 O0 σ ρ H H2 xs ps Q S s r G
  unfold allP at G
  split at G
  · split at G
    · rename_i bs hbs
      obtain ⟨v, rfl, r1⟩ := pr1 r
      rw [asBs_map hbs] at r1
      obtain ⟨a, vs, rfl, h1, r2⟩ := rt_lst r1
      rw [r2.bls] at h1
      exact ⟨a, bs, rfl, .inl (.inl h1), G _ _ (Same.refl _) (.bl _)⟩
    · exact G.elim
  · exact G.elim
theorem lenP_exc (ps : List PV) (c : Str) : lenP ps ≠ .exc c := by unfold lenP; split <;> (try split) <;> exact fun z => nomatch z
theorem absP_exc (ps : List PV) (c : Str) : absP ps ≠ .exc c := by unfold absP; split <;> exact fun z => nomatch z
theorem maxP_exc (ps : List PV) (c : Str) : maxP ps ≠ .exc c := by unfold maxP; split <;> exact fun z => nomatch z
theorem minP_exc (ps : List PV) (c : Str) : minP ps ≠ .exc c := by unfold minP; split <;> exact fun z => nomatch z
theorem listP_exc (ps : List PV) (c : Str) : listP ps ≠ .exc c := by unfold listP; split <;> exact fun z => nomatch z
theorem allP_exc (ps : List PV) (c : Str) : allP ps ≠ .exc c := by unfold allP; split <;> (try split) <;> exact fun z => nomatch z
variable {e : Expr} {es : List Expr} {pos p : Pos} {fA : Rho → R (List PV)} {f : Rho → R PV}
theorem e_len (mg : X.mg "len" = none) (hg : Gl X "len") (ha : AJ X W .t [e] fA) (he : starEach [e] X.env = (false, eval e X.env) :: starEach [] X.env := by rfl) : EJ X W .s (.Call (.Name "len" p) [e] [] pos) (eD lenP fA) := e_callB call_len lenP_exc (s_len _) hg mg PySem.boot_len ha (he := he)
theorem e_abs (mg : X.mg "abs" = none) (hg : Gl X "abs") (ha : AJ X W .t [e] fA) (he : starEach [e] X.env = (false, eval e X.env) :: starEach [] X.env := by rfl) : EJ X W .s (.Call (.Name "abs" p) [e] [] pos) (eD absP fA) := e_callB call_abs absP_exc (s_abs _) hg mg (by decide +kernel) ha (he := he)
theorem e_list (mg : X.mg "list" = none) (hg : Gl X "list") (ha : AJ X W .t [e] fA) (he : starEach [e] X.env = (false, eval e X.env) :: starEach [] X.env := by rfl) : EJ X W .f (.Call (.Name "list" p) [e] [] pos) (eD listP fA) := e_callTy call_list_of listP_exc (s_list _) hg mg (by decide +kernel) ha (he := he)
theorem e_all (hc : X.calm = true) (mg : X.mg "all" = none) (hg : Gl X "all") (ha : AJ X W .t [e] fA) (he : starEach [e] X.env = (false, eval e X.env) :: starEach [] X.env := by rfl) : EJ X W .s (.Call (.Name "all" p) [e] [] pos) (eD allP fA) := e_callB (cr_all hc) allP_exc (s_all _) hg mg (by decide +kernel) ha (he := he)
theorem e_max2 (hc : X.calm = true) {e' : Expr} (mg : X.mg "max" = none) (hg : Gl X "max") (ha : AJ X W .t [e, e'] fA) (he : starEach [e, e'] X.env = (false, eval e X.env) :: starEach [e'] X.env := by rfl) (hpl : (backTo pos (starEach [e'] X.env)).any (·.1) = false := by rfl) : EJ X W .s (.Call (.Name "max" p) [e, e'] [] pos) (eD maxP fA) := e_callB (call_max2 hc) maxP_exc (s_max _) hg mg (by decide +kernel) ha (he := he) (hpl := hpl)
theorem e_min2 (hc : X.calm = true) {e' : Expr} (mg : X.mg "min" = none) (hg : Gl X "min") (ha : AJ X W .t [e, e'] fA) (he : starEach [e, e'] X.env = (false, eval e X.env) :: starEach [e'] X.env := by rfl) (hpl : (backTo pos (starEach [e'] X.env)).any (·.1) = false := by rfl) : EJ X W .s (.Call (.Name "min" p) [e, e'] [] pos) (eD minP fA) := e_callB (call_min2 hc) minP_exc (s_min _) hg mg (by decide +kernel) ha (he := he) (hpl := hpl)
def tyN : PV → String
  | .non => "NoneType" | .bl _ => "bool" | .int _ => "int" | .str _ => "str" | .tup _ => "tuple" | .lst _ => "list" | .frz _ => "list" | .dct => "dict"
def isiP (n : String) (p : PV) : R PV := match kitB (tyN p) n with
  | some b => .ok (.bl b)
  | none => .stuck
theorem rt_ty {K : PySem.W.Frag} {H H2 : Hp} {O0 : Addr → Prop} {σ : St} {ρ : Rho} {x : V} {p : PV} (r : RepM K O0 σ ρ .t H H2 x p) : TyX K H2 x (.type (tyN p)) := by
  rcases r with r | ⟨a, vs, ps, rfl, rfl, e3, e4⟩
  · cases r with
    | non => exact .base .non
    | bl b => exact .base (.bl b)
    | int i => exact .base (.int i)
    | str i => exact .base (.str i)
    | lst h _ _ => exact .base (.lst h)
    | tup h _ =>
      rcases h with ⟨h, _⟩ | ⟨o, its, n, h1, h2, _⟩
      · exact .base (.tup h)
      · exact .kTuple h1 h2
    | frz h =>
      rcases h with ⟨⟨o, h⟩, _⟩ | h
      · exact .base (.frz h)
      · rcases h fun _ => none with (h | ⟨_, h⟩) | ⟨o, its, n, h1, h2, _⟩
        · cases h
        · cases h
        · exact .kList h1 h2
    | dct h _ => exact .base (.dK h)
  · exact .base (.lst e3)
theorem e_isi {n : String} {en : Expr} (mg : X.mg "isinstance" = none) (hg : Gl X "isinstance") (ha : EJ X W .t e f) (hn : PE X en (tC (.ty n))) (he : starEach [e, en] X.env = (false, eval e X.env) :: starEach [en] X.env := by rfl) (he2 : starEach [en] X.env = (false, eval en X.env) :: starEach [] X.env := by rfl) (hpl : (backTo pos (starEach [en] X.env)).any (·.1) = false := by rfl) :
    EJ X W .s (.Call (.Name "isinstance" p) [e, en] [] pos) (e1 (isiP n) f) := by
  refine pe_imp (pe_callB call_isi hg mg PyProof.Rows.boot_isinstance (pa_cons ha (pa_cons hn pa_nil he2) he) (by decide) (by decide) he hpl) fun σ H Q ⟨H0, O0, ρ, S, G⟩ => ⟨H0, O0, ρ, S, ?_⟩
  revert G
  unfold e1
  cases f ρ with
  | stuck => exact False.elim
  | exc c => exact fun G => G
  | ok q =>
    intro G x H1 s1 r1
    rw [R.bind_ok] at G
    unfold isiP at G
    split at G
    · rename_i b hb
      exact ⟨x, .ty n, _, _, b, rfl, .ty n, rt_ty r1, kit_ty hb, G _ _ s1 (.bl b)⟩
    · exact G.elim
end
end PL
set_option Elab.async false
set_option linter.all false
set_option maxRecDepth 100000
set_option autoImplicit false
namespace PL
open PySem PySem.Spec L2
open PyProof.Rows hiding St
def Kept (O : Addr → Prop) (H : Hp) (O' : Addr → Prop) (H' : Hp) : Prop := ∀ a o, H a = some o → ¬ O a → H' a = some o ∧ ¬ O' a
theorem Kept.refl (O : Addr → Prop) (H : Hp) : Kept O H O H := fun _ _ h n => ⟨h, n⟩
theorem Kept.trans {O O1 O2 : Addr → Prop} {H H1 H2 : Hp} (a : Kept O H O1 H1) (b : Kept O1 H1 O2 H2) : Kept O H O2 H2 := fun c o h n => b c o (a c o h n).1 (a c o h n).2
theorem Kept.same {O : Addr → Prop} {H H' : Hp} (s : Same H H') : Kept O H O H' := fun a o h n => ⟨s a o h, n⟩
structure ItOk (K : PySem.W.Frag) (J : It) (items : List PV) (O1 : Addr → Prop) (H1 : Hp) : Prop where
  go : ∀ i H O, Kept O1 H1 O H → i < items.length → J.go i H
  stop : ∀ i H O, Kept O1 H1 O H → items.length ≤ i → J.stop i H
  yld : ∀ i H O x H' p, Kept O1 H1 O H → (∀ a, O a → H a ≠ none) → items[i]? = some p → J.yld i H x H' → Same H H' ∧ Rep K H' O x p
def GotI (K : PySem.W.Frag) (mg : Str → Option Value) (W : WX) (O0 : Addr → Prop) (σ : St) (ρ : Rho) (H : Hp) (Q : It → Hp → Prop) : R (List PV) → Prop
  | .ok items => ∀ J H', Same H H' → ItOk K J items (OO O0 σ ρ) H' → Q J H'
  | .exc c => ∀ C H', Same H H' → mg c = some (.ref C) → W (.ref C) none σ H'
  | .stuck => False
def tI (K : PySem.W.Frag) (mg : Str → Option Value) (W : WX) (f : Rho → R (List PV)) : TI := fun σ H Q =>
  ∃ H0 O0 ρ, StR K H0 O0 H σ ρ ∧ GotI K mg W O0 σ ρ H Q (f ρ)
abbrev IJ (X : Cx) (W : WX) (tg it : Expr) (f : Rho → R (List PV)) : Prop := PI X tg it (tI X.K X.mg W f)
section
variable {X : Cx} {W : WX} {e e' e'' tg : Expr} {pos p : Pos} {f : Rho → R PV} {fA : Rho → R (List PV)} {K : PySem.W.Frag}
theorem pi_imp {t t' : TI} (h : PI X tg e t) (q : ∀ σ H Q, t' σ H Q → t σ H Q) : PI X tg e t' := ⟨fun pins s σ H Q I hw => h.run pins s σ H Q I (q σ H Q hw)⟩
/-- the items of a list, a tuple -/
def asL : PV → R (List PV)
  | .lst l | .frz l => .ok l
  | _ => .stuck
def asS : PV → R (List PV)
  | .lst l | .frz l | .tup l => .ok l
  | _ => .stuck
def iRv (f : Rho → R PV) : Rho → R (List PV) := fun ρ => (f ρ).bind fun p => (asS p).bind fun l => .ok l.reverse
theorem kept_reps {H H1 : Hp} {O O1 : Addr → Prop} (k : Kept O1 H1 O H) {v : V} {p : PV} (r : Rep K H1 O1 v p) : Rep K H O v p := r.mono k
theorem lst_it {H1 : Hp} {O1 : Addr → Prop} {a : Addr} {l : List PV} (r : Rep K H1 O1 (.ref a) (.lst l)) : ItOk K (Itl K a) l O1 H1 ∧ ∃ xs, SqL K H1 a xs := by
  cases r with
  | @lst _ vs _ h n r =>
    refine ⟨⟨fun i H O k hi => ?_, fun i H O k hi => ⟨vs, .inl (.inl (k _ _ h n).1), by rw [r.length]; exact hi⟩, fun i H O x H' p k _ hp hy => ?_⟩, vs, .inl (.inl h)⟩
    · obtain ⟨v, hv, _⟩ := r.get (List.getElem?_eq_getElem hi)
      exact ⟨vs, v, .inl (.inl (k _ _ h n).1), hv⟩
    · obtain ⟨rfl, hx⟩ := hy
      obtain ⟨q, hq, rq⟩ := r.get' (hx vs (.inl (.inl (k _ _ h n).1)))
      rw [hp] at hq; cases hq
      exact ⟨Same.refl _, kept_reps k rq⟩
theorem frz_it {H1 : Hp} {O1 : Addr → Prop} {a : Addr} {l : List PV} (r : Rep K H1 O1 (.ref a) (.frz l)) : ItOk K (Itl K a) l O1 H1 ∧ ∃ xs, SqL K H1 a xs := by
  generalize hl : PV.frz l = q at r
  cases r with
  | @frz _ ns h =>
    cases hl
    have sq : ∀ H O, Kept O1 H1 O H → SqL K H a (ns.map V.int) := fun H O k => by
      rcases h with ⟨⟨o, h⟩, n⟩ | h
      · exact .inl (.inr ⟨o, (k _ _ h n).1⟩)
      · exact h _
    refine ⟨⟨fun i H O k hi => ?_, fun i H O k hi => ⟨_, sq H O k, by simpa using hi⟩, fun i H O x H' p k _ hp hy => ?_⟩, _, sq _ _ (Kept.refl _ _)⟩
    · rw [List.length_map] at hi
      exact ⟨_, .int ns[i], sq H O k, by rw [List.getElem?_map, List.getElem?_eq_getElem hi]; rfl⟩
    · obtain ⟨rfl, hx⟩ := hy
      have hx := hx _ (sq _ O k)
      rw [List.getElem?_map] at hp hx
      cases hn : ns[i]? with
      | none => rw [hn] at hp; cases hp
      | some n =>
        rw [hn] at hp hx
        cases hp; cases hx
        exact ⟨Same.refl _, .int n⟩
  | _ => cases hl
theorem tup_it {H1 : Hp} {O1 : Addr → Prop} {a : Addr} {l : List PV} (r : Rep K H1 O1 (.ref a) (.tup l)) : ItOk K (Itt K a) l O1 H1 ∧ ∃ xs, SqT K H1 a xs := by
  cases r with
  | @tup _ vs _ h r =>
    have sq : ∀ H O, Kept O1 H1 O H → SqT K H a vs := fun H O k => by
      rcases h with ⟨h, n⟩ | h
      · exact .inl (.inl (k _ _ h n).1)
      · exact .inr h
    refine ⟨⟨fun i H O k hi => ?_, fun i H O k hi => ⟨vs, sq H O k, by rw [r.length]; exact hi⟩, fun i H O x H' p k _ hp hy => ?_⟩, vs, sq _ _ (Kept.refl _ _)⟩
    · obtain ⟨v, hv, _⟩ := r.get (List.getElem?_eq_getElem hi)
      exact ⟨vs, v, sq H O k, hv⟩
    · obtain ⟨rfl, hx⟩ := hy
      obtain ⟨q, hq, rq⟩ := r.get' (hx vs (sq _ O k))
      rw [hp] at hq; cases hq
      exact ⟨Same.refl _, kept_reps k rq⟩
/-- a PI by either of two readings -/
theorem pi_or {w1 w2 : TI} (h1 : PI X tg e w1) (h2 : PI X tg e w2) : PI X tg e (fun σ H R => w1 σ H R ∨ w2 σ H R) := ⟨fun pins s σ H R I hw => by
  rcases hw with hw | hw
  · exact h1.run pins s σ H R I hw
  · exact h2.run pins s σ H R I hw⟩
def iS (f : Rho → R PV) : Rho → R (List PV) := fun ρ => (f ρ).bind asS
theorem ref_of {H1 : Hp} {O1 : Addr → Prop} {v : V} {p : PV} (r : Rep K H1 O1 v p) (h : (∃ l, p = .lst l) ∨ (∃ l, p = .frz l) ∨ ∃ l, p = .tup l) : ∃ a, v = .ref a := by
  rcases h with ⟨l, rfl⟩ | ⟨l, rfl⟩ | ⟨l, rfl⟩
  · cases r; exact ⟨_, rfl⟩
  · generalize hl : PV.frz l = q at r
    cases r with
    | frz h => exact ⟨_, rfl⟩
    | _ => cases hl
  · cases r; exact ⟨_, rfl⟩
/-- a list or a tuple, walked -/
theorem i_seq (he : EJ X W .s e f) : IJ X W tg e (iS f) := by
  refine pi_imp (pi_or (L2.pi_list he) (L2.pi_tup he)) fun σ H Q ⟨H0, O0, ρ, S, G⟩ => ?_
  revert G
  unfold iS
  cases hf : f ρ with
  | stuck => exact False.elim
  | exc c => exact fun G => .inl ⟨H0, O0, ρ, S, by rw [hf]; exact G⟩
  | ok p =>
    cases p with
    | lst l =>
      intro G
      refine .inl ⟨H0, O0, ρ, S, ?_⟩
      rw [hf]
      intro v H1 s1 r1
      obtain ⟨a, rfl⟩ := ref_of r1 (.inl ⟨l, rfl⟩)
      obtain ⟨h1, h2⟩ := lst_it r1
      exact ⟨a, rfl, h2, G _ _ s1 h1⟩
    | frz l =>
      intro G
      refine .inl ⟨H0, O0, ρ, S, ?_⟩
      rw [hf]
      intro v H1 s1 r1
      obtain ⟨a, rfl⟩ := ref_of r1 (.inr (.inl ⟨l, rfl⟩))
      obtain ⟨h1, h2⟩ := frz_it r1
      exact ⟨a, rfl, h2, G _ _ s1 h1⟩
    | tup l =>
      intro G
      refine .inr ⟨H0, O0, ρ, S, ?_⟩
      rw [hf]
      intro v H1 s1 r1
      obtain ⟨a, rfl⟩ := ref_of r1 (.inr (.inr ⟨l, rfl⟩))
      obtain ⟨h1, h2⟩ := tup_it r1
      exact ⟨a, rfl, h2, G _ _ s1 h1⟩
    | _ => exact False.elim
theorem rev_ix {α : Type} {l : List α} {i : Nat} (h : i < l.length) : l.reverse[i]? = l[l.length - 1 - i]? := List.getElem?_reverse h
theorem i_rev (mg : X.mg "reversed" = none) (hg : Gl X "reversed") (he : EJ X W .s e f) (hs : starEach [e] X.env = (false, eval e X.env) :: starEach [] X.env := by rfl) : IJ X W tg (.Call (.Name "reversed" p) [e] [] pos) (iRv f) := by
  refine pi_imp (RT.pi_revA hg mg he hs) fun σ H Q ⟨H0, O0, ρ, S, G⟩ => ⟨H0, O0, ρ, S, ?_⟩
  revert G
  unfold iRv
  cases hf : f ρ with
  | stuck => exact False.elim
  | exc c => exact fun G => G
  | ok p =>
    cases p with
    | lst l =>
      intro G v H1 s1 r1
      cases (show Rep X.K H1 (OO O0 σ ρ) v (.lst l) from r1) with
      | @lst a vs _ h n r =>
        refine ⟨a, vs, rfl, .inl ⟨.inl (.inl h), G _ _ s1 ⟨fun i H O k hi => ?_, fun i H O k hi => ?_, fun i H O x H' p k _ hp hy => ?_⟩⟩⟩
        · rw [List.length_reverse] at hi
          refine ⟨by rw [r.length]; exact hi, vs, vs[vs.length - 1 - i]'(by rw [r.length]; omega), .inl (.inl (k _ _ h n).1), List.getElem?_eq_getElem _⟩
        · rw [List.length_reverse] at hi
          show vs.length ≤ i
          rw [r.length]; exact hi
        · obtain ⟨rfl, hx⟩ := hy
          have hi : i < l.length := by
            have := (List.getElem?_eq_some_iff.mp hp).1
            simpa using this
          rw [rev_ix hi] at hp
          obtain ⟨q, hq, rq⟩ := r.get' (hx vs (.inl (.inl (k _ _ h n).1)))
          rw [r.length] at hq
          rw [hp] at hq; cases hq
          exact ⟨Same.refl _, kept_reps k rq⟩
    | tup l =>
      intro G v H1 s1 r1
      cases (show Rep X.K H1 (OO O0 σ ρ) v (.tup l) from r1) with
      | @tup a vs _ h r =>
        have sq : ∀ H O, Kept (OO O0 σ ρ) H1 O H → SqT X.K H a vs := fun H O k => by
          rcases h with ⟨h, n⟩ | h
          · exact .inl (.inl (k _ _ h n).1)
          · exact .inr h
        refine ⟨a, vs, rfl, .inr ⟨sq _ _ (Kept.refl _ _), G _ _ s1 ⟨fun i H O k hi => ?_, fun i H O k hi => ?_, fun i H O x H' p k _ hp hy => ?_⟩⟩⟩
        · rw [List.length_reverse] at hi
          refine ⟨by rw [r.length]; exact hi, vs, vs[vs.length - 1 - i]'(by rw [r.length]; omega), sq H O k, List.getElem?_eq_getElem _⟩
        · rw [List.length_reverse] at hi
          show vs.length ≤ i
          rw [r.length]; exact hi
        · obtain ⟨rfl, hx⟩ := hy
          have hi : i < l.length := by
            have := (List.getElem?_eq_some_iff.mp hp).1
            simpa using this
          rw [rev_ix hi] at hp
          obtain ⟨q, hq, rq⟩ := r.get' (hx vs (sq _ O k))
          rw [r.length] at hq
          rw [hp] at hq; cases hq
          exact ⟨Same.refl _, kept_reps k rq⟩
    | frz l =>
      intro G v H1 s1 r1
      obtain ⟨a, rfl⟩ := ref_of r1 (.inr (.inl ⟨l, rfl⟩))
      generalize hl : PV.frz l = q at r1
      cases (show Rep X.K H1 (OO O0 σ ρ) (.ref a) q from r1) with
      | @frz a ns h =>
        cases hl
        have sq : ∀ H O, Kept (OO O0 σ ρ) H1 O H → SqL X.K H a (ns.map V.int) := fun H O k => by
          rcases h with ⟨⟨o, h⟩, n⟩ | h
          · exact .inl (.inr ⟨o, (k _ _ h n).1⟩)
          · exact h _
        refine ⟨a, _, rfl, .inl ⟨sq _ _ (Kept.refl _ _), G _ _ s1 ⟨fun i H O k hi => ?_, fun i H O k hi => ?_, fun i H O x H' p k _ hp hy => ?_⟩⟩⟩
        · rw [List.length_reverse, List.length_map] at hi
          refine ⟨by rw [List.length_map]; exact hi, _, (ns.map V.int)[(ns.map V.int).length - 1 - i]'(by rw [List.length_map]; omega), sq H O k, List.getElem?_eq_getElem _⟩
        · rw [List.length_reverse, List.length_map] at hi
          show (ns.map V.int).length ≤ i
          rw [List.length_map]; exact hi
        · obtain ⟨rfl, hx⟩ := hy
          have hi : i < (ns.map PV.int).length := by
            have := (List.getElem?_eq_some_iff.mp hp).1
            simpa using this
          rw [rev_ix hi] at hp
          have hx := hx _ (sq _ O k)
          rw [List.length_map] at hx hp
          rw [List.getElem?_map] at hp hx
          cases hn : ns[ns.length - 1 - i]? with
          | none => rw [hn] at hp; cases hp
          | some n =>
            rw [hn] at hp hx
            cases hp; cases hx
            exact ⟨Same.refl _, .int n⟩
      | _ => cases hl
    | _ => exact False.elim
/-- lo, lo + 1, .. -/
def rngL (lo : Int) (n : Nat) : List PV := (List.range n).map fun (i : Nat) => PV.int (lo + i)
theorem rngL_len (lo : Int) (n : Nat) : (rngL lo n).length = n := by unfold rngL; rw [List.length_map, List.length_range]
theorem rng_it (lo : Int) (n : Nat) (O1 : Addr → Prop) (H1 : Hp) : ItOk K (Itr lo n) (rngL lo n) O1 H1 := by
  refine ⟨fun i H O k hi => by rw [rngL_len] at hi; exact hi, fun i H O k hi => by rw [rngL_len] at hi; exact hi, fun i H O x H' p k _ hp hy => ?_⟩
  obtain ⟨rfl, rfl⟩ := hy
  unfold rngL at hp
  rw [List.getElem?_map] at hp
  cases hn : (List.range n)[i]? with
  | none => rw [hn] at hp; cases hp
  | some j =>
    rw [hn] at hp
    obtain ⟨h1, h2⟩ := List.getElem?_eq_some_iff.mp hn
    rw [List.getElem_range] at h2
    cases hp
    rw [h2]
    exact ⟨Same.refl _, .int _⟩
def inR (i : Int) : Bool := decide (-(2 ^ 62) ≤ i) && decide (i < 2 ^ 62)
theorem inR_iff {i : Int} : inR i = true ↔ -(2 ^ 62) ≤ i ∧ i < 2 ^ 62 := by unfold inR; rw [Bool.and_eq_true, decide_eq_true_eq, decide_eq_true_eq]
def rng1 : List PV → R (List PV)
  | [.int j] => if inR j = true then .ok (rngL 0 j.toNat) else .stuck
  | _ => .stuck
def rng2 : List PV → R (List PV)
  | [.int i, .int j] => .ok (rngL i (j - i).toNat)
  | _ => .stuck
def iR (g : List PV → R (List PV)) (f : Rho → R (List PV)) : Rho → R (List PV) := fun ρ => (f ρ).bind g
theorem i_rng1 (mg : X.mg "range" = none) (hg : Gl X "range") (ha : AJ X W .t [e] fA) (hs : starEach [e] X.env = [(false, eval e X.env)] := by rfl) : IJ X W tg (.Call (.Name "range" p) [e] [] pos) (iR rng1 fA) := by
  refine pi_imp (pi_range1 hg mg ha hs) fun σ H Q ⟨H0, O0, ρ, S, G⟩ => ⟨H0, O0, ρ, S, ?_⟩
  revert G
  unfold iR
  cases fA ρ with
  | stuck => exact False.elim
  | exc c => exact fun G => G
  | ok ps =>
    intro G vs H1 s1 r1
    rw [R.bind_ok] at G
    unfold rng1 at G
    split at G
    · split at G
      · rename_i hz
        obtain ⟨v, rfl, r2⟩ := pr1 r1
        rw [rt_int r2]
        obtain ⟨z1, z2⟩ := inR_iff.mp hz
        exact ⟨_, rfl, z1, z2, G _ _ s1 (rng_it _ _ _ _)⟩
      · exact G.elim
    · exact G.elim
/-- a range of any numbers, walked by the iterator for great ones -/
theorem turn_long {P : Program} {w : World} {K : PySem.W.Frag} {tg : Expr} (z : Addr) (lo : Int) (n : Nat) : Turn P w K tg (Itr lo n) [z] z (fun j g => IsLongIter g z (lo + (j : Nat) * 1) ((n : Int) - (j : Nat)) 1) := by
  have here : z ∈ [z] := List.mem_singleton.mpr rfl
  refine ⟨here, fun j g hg b hb => ?_, fun j g g' hg k => k z here _ hg, ?_, ?_, fun _ _ _ _ _ hg q => wpAny_pyIter_longiter hg q⟩
  · cases List.mem_singleton.mp hb
    exact ⟨_, hg, fun v e => nomatch e⟩
  · rintro X rfl rfl rfl calm j pins u σ H E inv fresh hg lt
    have fr := fresh z here
    refine (Walks.longrange (prog := X.prog) (w := X.w) (inv.ok.hd calm) z lo 1 n).item j u _ _ lt hg fun v g tk hv hg' same => ?_
    obtain ⟨t, rfl⟩ := hv
    have inv' : Inv X pins σ H { u with heap := g, toks := tk } := inv.turned (fun b o hb e => same b o (fun hm => hb (List.mem_singleton.mp hm)) e) fr.1 fr.2.1 fr.2.2.2.1 fr.2.2.2.2.1 fr.2.2.2.2.2
    exact ⟨_, rfl, go_of (s := { u with heap := g, toks := tk }) (n := "longrange_iterator") hg' rfl rfl (by decide) ⟨.int (lo + j), H, inv', ⟨t, by rw [Int.mul_one]⟩, ⟨rfl, rfl⟩, hg', fun b hb => (fresh b hb).1⟩⟩
  · rintro X rfl rfl rfl calm j pins u σ H E inv fresh hg le
    have fr := fresh z here
    have le : n ≤ j := le
    exact wpAny_pyNext_long_end (inv.ok.hd calm) hg (by omega) fun g eb => ⟨rfl, inv.turned (t' := u.toks) (fun b o hb e => eb b o hb e) fr.1 fr.2.1 fr.2.2.2.1 fr.2.2.2.2.1 fr.2.2.2.2.2⟩
theorem range_any {pins : List (Addr × Obj)} {σ : St} {H : Hp} {u : Shared} {R : It → Hp → Prop} {E : Value → Shared → Prop} {i j : Int} {t1 t2 t3 : Tok} {tk : Nat} (inv : Inv X pins σ H u) (q : R (Itr i (j - i).toNat) H) :
    wpAny (model X.prog X.w) X.A (pyIter (.ref u.heap.objs.size)) (PIE X pins σ tg R) E { u with heap := u.heap.push { cls := .type "range", data := .fields #[.int i t1, .int j t2, .int 1 t3] }, toks := tk } := by
  have inv' : Inv X pins σ H { u with heap := u.heap.push { cls := .type "range", data := .fields #[.int i t1, .int j t2, .int 1 t3] }, toks := tk } := inv.kept fun b o e => Heap.get?_push_of_some _ e
  have many : (((j - i).toNat : Nat) : Int) - ((0 : Nat) : Int) = Builtin.Range.rangeSize i j 1 := by rw [rangeSize_one]; split <;> omega
  have first : i + ((0 : Nat) : Int) * 1 = i := by simp
  cases sm : Builtin.Range.small i j 1 with
  | true =>
    refine wpAny_pyIter_range (IsRange.new ..) sm (pi_one inv' _ (turn_range _ i (j - i).toNat) ?_ q)
    show IsRangeIter _ _ (i + ((0 : Nat) : Int) * 1) ((((j - i).toNat : Nat) : Int) - ((0 : Nat) : Int)) 1
    rw [first, many]; exact Heap.get?_push_size _ rfl
  | false =>
    refine wpAny_pyIter_longrange (IsRange.new ..) sm (pi_one inv' _ (turn_long _ i (j - i).toNat) ?_ q)
    show IsLongIter _ _ (i + ((0 : Nat) : Int) * 1) ((((j - i).toNat : Nat) : Int) - ((0 : Nat) : Int)) 1
    rw [first, many]; exact Heap.get?_push_size _ rfl
def iRngA (ta : TA) : TI := fun σ H R => ta σ H fun vs H' => ∃ i j : Int, vs = [.int i, .int j] ∧ R (Itr i (j - i).toNat) H'
theorem pi_rangeA {a b : Expr} {ta : TA} {p pos : Pos} (hg : Gl X "range") (hm : X.mg "range" = none) (ha : PA X [a, b] ta) (h1 : starEach [a, b] X.env = [(false, eval a X.env), (false, eval b X.env)] := by rfl) (h2 : starEach [b] X.env = [(false, eval b X.env)] := by rfl) :
    PI X tg (.Call (.Name "range" p) [a, b] [] pos) (iRngA ta) := by
  refine ⟨fun pins u σ H R inv hw => Call_ (ld_blt inv hg hm boot_range (PyProof.Rows.callWith_type1 (thn (ha.run pos pins u σ H _ inv hw) ?_) (by rw [h1, h2]) (by rw [h2]; rfl)))⟩
  rintro us u1 ⟨vs, H1, inv1, rel, i, j, rfl, q⟩
  cases rel with
  | cons ri rel => cases rel with
    | cons rj rel =>
      cases rel
      obtain ⟨t1, rfl⟩ := ri
      obtain ⟨t2, rfl⟩ := rj
      exact call_range_2 (range_any inv1 q)
theorem i_rng2 (mg : X.mg "range" = none) (hg : Gl X "range") (ha : AJ X W .t [e, e'] fA) (hs : starEach [e, e'] X.env = [(false, eval e X.env), (false, eval e' X.env)] := by rfl) (hs2 : starEach [e'] X.env = [(false, eval e' X.env)] := by rfl) : IJ X W tg (.Call (.Name "range" p) [e, e'] [] pos) (iR rng2 fA) := by
  refine pi_imp (pi_rangeA hg mg ha hs hs2) fun σ H Q ⟨H0, O0, ρ, S, G⟩ => ⟨H0, O0, ρ, S, ?_⟩
  revert G
  unfold iR
  cases fA ρ with
  | stuck => exact False.elim
  | exc c => exact fun G => G
  | ok ps =>
    intro G vs H1 s1 r1
    rw [R.bind_ok] at G
    unfold rng2 at G
    split at G
    · obtain ⟨v, w, rfl, r2, r3⟩ := pr2 r1
      rw [rt_int r2, rt_int r3]
      exact ⟨_, _, rfl, G _ _ s1 (rng_it _ _ _ _)⟩
    · exact G.elim
/-- enumerate(list) -/
def enumL : Nat → List PV → List PV
  | _, [] => []
  | n, p :: ps => .tup [.int (n : Nat), p] :: enumL (n + 1) ps
theorem enumL_len : ∀ (n : Nat) (l : List PV), (enumL n l).length = l.length
  | _, [] => rfl
  | n, p :: ps => by unfold enumL; rw [List.length_cons, List.length_cons, enumL_len]
theorem enumL_get : ∀ (n : Nat) (l : List PV) (i : Nat), (enumL n l)[i]? = (l[i]?).map fun p => .tup [.int ((n + i : Nat) : Int), p]
  | _, [], _ => rfl
  | n, p :: ps, 0 => rfl
  | n, p :: ps, i + 1 => by
    unfold enumL
    rw [List.getElem?_cons_succ, List.getElem?_cons_succ, enumL_get (n + 1) ps i]
    rw [show n + 1 + i = n + (i + 1) by omega]
def iEn (f : Rho → R PV) : Rho → R (List PV) := fun ρ => (f ρ).bind fun p => (match p with
  | .lst l => .ok (enumL 0 l)
  | _ => .stuck)
theorem i_enum {elts : List Expr} {kk : Nat} {tpos : Pos} (mg : X.mg "enumerate" = none) (hg : Gl X "enumerate") (he : EJ X W .s e f) (hs1 : starEach [e] X.env = (false, eval e X.env) :: starEach [] X.env := by rfl) (hs : starEach [e] X.env = [(false, eval e X.env)] := by rfl) : IJ X W (.Tuple elts kk tpos) (.Call (.Name "enumerate" p) [e] [] pos) (iEn f) := by
  refine pi_imp (pi_enum hg mg (pa_cons he pa_nil hs1) hs) fun σ H Q ⟨H0, O0, ρ, S, G⟩ => ⟨H0, O0, ρ, S, ?_⟩
  revert G
  unfold iEn
  cases hf : f ρ with
  | stuck => exact False.elim
  | exc c => exact fun G => G
  | ok p =>
    cases p with
    | lst l =>
      intro G v H1 s1 r1
      cases (show Rep X.K H1 (OO O0 σ ρ) v (.lst l) from r1) with
      | @lst a vs _ h n r =>
        refine ⟨a, vs, rfl, .inl (.inl h), G _ _ s1 ⟨fun i H O k hi => ?_, fun i H O k hi => ⟨vs, .inl (.inl (k _ _ h n).1), by rw [enumL_len] at hi; rw [r.length]; exact hi⟩, fun i H O x H' p k al hp hy => ?_⟩⟩
        · rw [enumL_len] at hi
          obtain ⟨v, hv, _⟩ := r.get (List.getElem?_eq_getElem hi)
          exact ⟨vs, v, .inl (.inl (k _ _ h n).1), hv⟩
        · obtain ⟨T, y, rfl, hT, rfl, hx⟩ := hy
          obtain ⟨q, hq, rq⟩ := r.get' (hx vs (.inl (.inl (k _ _ h n).1)))
          rw [enumL_get, hq] at hp
          cases hp
          rw [Nat.zero_add]
          exact ⟨same_new hT, .tup (.inl ⟨upd_same, fun z => al T z hT⟩) (.cons (.int _) (.cons ((kept_reps k rq).same (same_new hT)) .nil))⟩
    | _ => exact False.elim
end
def GotG (K : PySem.W.Frag) (H0 : Hp) (O0 : Addr → Prop) (H : Hp) (ts : List Nat) (σ : St) (ρ : Rho) (Q : St → Hp → Prop) : Option Rho → Prop
  | some ρ' => ∀ σ', StR K H0 O0 H σ' ρ' → (∀ a, OO O0 σ' ρ' a → OO O0 σ ρ a) → σ'.length = σ.length → (∀ (i : Nat), i ∉ ts → σ'[i]? = σ[i]? ∧ ρ'[i]? = ρ[i]?) → Q σ' H
  | none => False
def tG (K : PySem.W.Frag) (ts : List Nat) (h : PV → Rho → Option Rho) : TG := fun v σ H Q => ∃ H0 O0 ρ p, StR K H0 O0 H σ ρ ∧ Rep K H (OO O0 σ ρ) v p ∧ GotG K H0 O0 H ts σ ρ Q (h p ρ)
abbrev GJ (X : Cx) (tg : Expr) (ts : List Nat) (h : PV → Rho → Option Rho) : Prop := PG X tg (tG X.K ts h)
theorem pg_imp {X : Cx} {tg : Expr} {t t' : TG} (h : PG X tg t) (q : ∀ v σ H Q, t' v σ H Q → t v σ H Q) : PG X tg t' := ⟨fun pins s σ H v u Q I r hw => h.run pins s σ H v u Q I r (q v σ H Q hw)⟩
theorem pgs_imp {X : Cx} {tg : List Expr} {t t' : TGs} (h : PGs X tg t) (q : ∀ v σ H Q, t' v σ H Q → t v σ H Q) : PGs X tg t' := ⟨fun pins s σ H v u Q I r hw => h.run pins s σ H v u Q I r (q v σ H Q hw)⟩
def gN (i : Nat) : PV → Rho → Option Rho := fun p ρ => some (ρ.set i (.val p))
theorem g_name {X : Cx} {tg : Expr} {i : Nat} (h : PG X tg (gName i)) : GJ X tg [i] (gN i) := by
  refine pg_imp h fun v σ H Q ⟨H0, O0, ρ, p, S, r, G⟩ => ?_
  exact G _ (S.set (s := .val p) (fun _ z => nomatch z) (fun q z => by cases z; exact ⟨v, rfl, r⟩)) (fun a z => OO.set_val (s := .val p) (fun _ z => nomatch z) z) (List.length_set ..) fun j hj => have n : i ≠ j := fun e => hj (by rw [e]; exact List.mem_cons_self); ⟨List.getElem?_set_ne n, List.getElem?_set_ne n⟩
/-- several targets -/
def tGs (K : PySem.W.Frag) (ts : List Nat) (h : List PV → Rho → Option Rho) : TGs := fun vs σ H Q => ∃ H0 O0 ρ ps, StR K H0 O0 H σ ρ ∧ Reps K H (OO O0 σ ρ) vs ps ∧ GotG K H0 O0 H ts σ ρ Q (h ps ρ)
abbrev GJs (X : Cx) (tg : List Expr) (ts : List Nat) (h : List PV → Rho → Option Rho) : Prop := PGs X tg (tGs X.K ts h)
def gsNil : List PV → Rho → Option Rho
  | [], ρ => some ρ
  | _, _ => none
def gsCons (g : PV → Rho → Option Rho) (h : List PV → Rho → Option Rho) : List PV → Rho → Option Rho
  | p :: ps, ρ => (g p ρ).bind (h ps)
  | [], _ => none
section
variable {X : Cx} {e : Expr} {es : List Expr} {g : PV → Rho → Option Rho} {h : List PV → Rho → Option Rho} {pos : Pos} {ts us : List Nat}
theorem gs_nil : GJs X [] [] gsNil := by
  refine pgs_imp pgs_nil fun vs σ H Q ⟨H0, O0, ρ, ps, S, r, G⟩ => ?_
  cases ps with
  | nil => cases r; exact ⟨rfl, G σ S (fun _ z => z) rfl fun _ _ => ⟨rfl, rfl⟩⟩
  | cons p ps => exact G.elim
theorem gs_cons (h1 : GJ X e ts g) (h2 : GJs X es us h) (hs : (assignEach (e :: es) X.env).map (·.2) = assign e X.env :: (assignEach es X.env).map (·.2) := by rfl) : GJs X (e :: es) (ts ++ us) (gsCons g h) := by
  refine pgs_imp (pgs_cons h1 h2 hs) fun vs σ H Q ⟨H0, O0, ρ, ps, S, r, G⟩ => ?_
  cases r with
  | nil => exact G.elim
  | @cons v vs p ps r1 r2 =>
    refine ⟨v, vs, rfl, H0, O0, ρ, p, S, r1, ?_⟩
    have G' : GotG X.K H0 O0 H (ts ++ us) σ ρ Q ((g p ρ).bind (h ps)) := G
    revert G'
    cases g p ρ with
    | none => exact False.elim
    | some ρ1 =>
      intro G' σ1 S1 l1 e1 k1
      exact ⟨H0, O0, ρ1, ps, S1, r2.less l1, by
        revert G'
        rw [Option.bind_some]
        cases h ps ρ1 with
        | none => exact fun G => G
        | some ρ2 => exact fun G' σ2 S2 l2 e2 k2 => G' σ2 S2 (fun a z => l1 a (l2 a z)) (e2.trans e1) fun i hi => have a := k2 i fun z => hi (List.mem_append_right _ z); have b := k1 i fun z => hi (List.mem_append_left _ z); ⟨a.1.trans b.1, a.2.trans b.2⟩⟩
theorem draw_l {prog : Program} {w : World} {A : Around} {E : Value → Shared → Prop} {it l : Addr} {xs : Array Value} (ne : l ≠ it) : ∀ (k j : Nat) (u : Shared) (R : List Value → Shared → Prop), u.heap.IsListIter it l j → u.heap.IsList l xs → j + k ≤ xs.size →
    (∀ g, g.IsListIter it l (j + k) → Heap.SameBut it u.heap g → R ((xs.toList.drop j).take k) { u with heap := g }) → wpAny (model prog w) A (draw (.ref it) k) R E u
  | 0, j, u, R, _, _, _, q => wpAny_pure (by simpa using q u.heap (by simpa) (Heap.SameBut.refl ..))
  | k + 1, j, u, R, hi, hl, hs, q => by
    have lt : j < xs.size := by omega
    show wpAny (model prog w) A (pyNext (.ref it) >>= _) R E u
    refine wpAny_bind (wpAny_pyNext_list_item hi hl (x := xs[j]) (by simp [lt]) fun g1 i1 b1 => ?_)
    refine wpAny_bind (wpAny_holding (draw_l ne k (j + 1) _ _ i1 (hl.extBut b1.extBut ne) (by omega) fun g2 i2 b2 => wpAny_pure ?_))
    have z := q g2 (by rw [show j + (k + 1) = j + 1 + k by omega]; exact i2) (b1.trans b2)
    rw [show xs.toList.drop j = xs[j] :: xs.toList.drop (j + 1) by simp [List.drop_eq_getElem_cons, lt], List.take_succ_cons] at z
    exact z
theorem unp_l {prog : Program} {w : World} {A : Around} {E : Value → Shared → Prop} {u : Shared} {l : Addr} {xs : Array Value} {R : List Value → Shared → Prop} (hh : A.handled = none) (hl : u.heap.IsList l xs)
    (q : ∀ g, Heap.ExtBut u.heap.objs.size u.heap g → R xs.toList { u with heap := g }) : wpAny (model prog w) A (unpackItems (.ref l) xs.size none) R E u := by
  have ne : l ≠ u.heap.objs.size := by obtain ⟨o, ho, _⟩ := hl; exact Nat.ne_of_lt (Heap.lt_size ho)
  unfold unpackItems
  refine wpAny_bind ?_
  unfold notIterableAtAll
  refine wpAny_bind (wpAny_specialOf hl.typeIs slot_list_iter.lookup (wpAny_pure ?_))
  simp only [Bool.false_eq_true, if_false]
  refine wpAny_bind (wpAny_holding (wpAny_pyIter_list hl ?_))
  have h1 := hl.push { cls := .type "list_iterator", data := .fields #[.ref l, .int 0 0] }
  refine wpAny_bind (wpAny_holding (draw_l ne xs.size 0 _ _ ⟨_, Heap.get?_push_size _ rfl, rfl, rfl⟩ h1 (by omega) fun g1 i1 b1 => ?_))
  rw [show List.take xs.size (List.drop 0 xs.toList) = xs.toList by rw [List.drop_zero]; exact List.take_of_length_le (by simp)]
  rw [if_neg (by simp)]
  refine wpAny_bind (wpAny_holding (wpAny_pyNext_list_end hh i1 (h1.extBut b1.extBut ne) (by simp) fun g2 e2 => ?_))
  simp only [Option.isSome_none, Bool.false_eq_true, if_false]
  exact wpAny_pure (q g2 fun b o hb e => e2 b o hb (b1.extBut b o hb (Heap.get?_push_of_some _ e)))
def gSq (K : PySem.W.Frag) (n : Nat) (t : TGs) : TG := fun v σ H Q => ∃ a xs, v = .ref a ∧ (SqT K H a xs ∨ SqL K H a xs) ∧ xs.length = n ∧ t xs σ H Q
theorem pg_sq {X : Cx} {es : List Expr} {k n : Nat} {pos : Pos} {t : TGs} (hc : X.calm = true) (h : PGs X es t) (hn : (assignEach es X.env).length = n := by rfl) (hst : (assignEach es X.env).findIdx? (·.1) = none := by rfl) : PG X (.Tuple es k pos) (gSq X.K n t) := by
  refine ⟨fun pins s σ H v u Q I r g => ?_⟩
  obtain ⟨a, xs, e, hq | hq, hl, hw⟩ := g
  · exact (pg_tup hc h hn hst).run pins s σ H v u Q I r ⟨a, xs, e, hq, hl, hw⟩
  · subst e
    cases r
    obtain ⟨its, rv, pl, hz⟩ := I.list hq
    rw [assign_Tuple]
    refine wpAny_bind (wpAny_standAt ?_)
    unfold unpack
    have hsz : (assignEach es X.env).length = its.toArray.size := by simp [hn, ← hl, rv.length]
    rw [hsz, hst]
    refine wpAny_bind (wpAny_holding (unp_l (I.ok.hd hc) pl.isList fun g eb => ?_))
    have J : Inv X pins σ H { s with heap := g } := I.kept (t' := s.toks) fun b o e => eb b o (Nat.ne_of_lt (Heap.lt_size e)) e
    exact h.run pins _ σ H xs _ Q J (by simpa using rv) hw
def gT (h : List PV → Rho → Option Rho) : PV → Rho → Option Rho
  | .tup ps, ρ => h ps ρ
  | .lst ps, ρ => h ps ρ
  | _, _ => none
theorem g_tup {k n : Nat} (hc : X.calm = true) (h1 : GJs X es ts h) (hl : ∀ ps ρ ρ', h ps ρ = some ρ' → ps.length = n) (hn : (assignEach es X.env).length = n := by rfl) (hst : (assignEach es X.env).findIdx? (·.1) = none := by rfl) : GJ X (.Tuple es k pos) ts (gT h) := by
  refine pg_imp (pg_sq hc h1 hn hst) fun v σ H Q ⟨H0, O0, ρ, p, S, r, G⟩ => ?_
  have len : ∀ (ps : List PV), GotG X.K H0 O0 H ts σ ρ Q (h ps ρ) → ps.length = n := fun ps G' => by
    revert G'
    cases hh : h ps ρ with
    | none => exact False.elim
    | some ρ' => exact fun _ => hl ps ρ ρ' hh
  cases p with
  | tup ps =>
    cases r with
    | @tup a vs _ ha r => exact ⟨a, vs, rfl, .inl (sqT_of ha), by rw [r.length]; exact len ps G, H0, O0, ρ, ps, S, r, G⟩
  | lst ps =>
    cases r with
    | @lst a vs _ ha hn r => exact ⟨a, vs, rfl, .inr (.inl (.inl ha)), by rw [r.length]; exact len ps G, H0, O0, ρ, ps, S, r, G⟩
  | _ => exact G.elim
theorem gs_len : ∀ {n : Nat} {g : PV → Rho → Option Rho} {h : List PV → Rho → Option Rho}, (∀ ps ρ ρ', h ps ρ = some ρ' → ps.length = n) → ∀ ps ρ ρ', gsCons g h ps ρ = some ρ' → ps.length = n + 1 := by
  intro n g h hl ps ρ ρ' e
  cases ps with
  | nil => cases e
  | cons p ps =>
    have e' : (g p ρ).bind (h ps) = some ρ' := e
    cases hg : g p ρ with
    | none => rw [hg] at e'; cases e'
    | some ρ1 =>
      rw [hg, Option.bind_some] at e'
      rw [List.length_cons, hl ps ρ1 ρ' e']
theorem gs_len0 : ∀ ps ρ ρ', gsNil ps ρ = some ρ' → ps.length = 0 := by
  intro ps ρ ρ' e
  cases ps with
  | nil => rfl
  | cons p ps => cases e
end
end PL
set_option Elab.async false
set_option linter.all false
set_option maxRecDepth 100000
set_option autoImplicit false
namespace PL
open PySem PySem.Spec L2
open PyProof.Rows hiding St
def wipeR (ρ : Rho) : List Nat → Rho
  | [] => ρ
  | v :: vs => (wipeR ρ vs).set v .un
def notOwn (ρ : Rho) (v : Nat) : Bool := match ρ[v]? with
  | some (.own _) => false
  | _ => true
theorem wipe_get (σ : St) : ∀ (vs : List Nat) (i : Nat), (wipe σ vs)[i]? = if i ∈ vs then (if i < σ.length then some none else none) else σ[i]?
  | [], i => by simp [wipe]
  | v :: vs, i => by
    unfold wipe
    by_cases e : v = i
    · subst e
      rw [if_pos List.mem_cons_self]
      by_cases h : v < σ.length
      · rw [if_pos h, List.getElem?_set_self (by rw [wipe_length]; exact h)]
      · rw [if_neg h, List.getElem?_eq_none (by rw [List.length_set, wipe_length]; omega)]
    · rw [List.getElem?_set_ne e, wipe_get σ vs i]
      have : i ∈ v :: vs ↔ i ∈ vs := by
        rw [List.mem_cons]
        exact ⟨fun z => z.elim (fun z => absurd z.symm e) id, .inr⟩
      simp only [this]
theorem wipe_back {σ σ2 : St} {vs : List Nat} (hl : σ2.length = (wipe σ vs).length) (h : ∀ (i : Nat), i ∉ vs → σ2[i]? = (wipe σ vs)[i]?) : wipe σ2 vs = wipe σ vs := by
  refine List.ext_getElem? fun i => ?_
  rw [wipe_get σ2 vs i]
  by_cases hi : i ∈ vs
  · rw [if_pos hi, hl, wipe_length, wipe_get σ vs i, if_pos hi]
  · rw [if_neg hi, h i hi]
theorem wipe_st {K : PySem.W.Frag} {H0 H : Hp} {O0 : Addr → Prop} {σ : St} {ρ : Rho} (S : StR K H0 O0 H σ ρ) : ∀ vs : List Nat, StR K H0 O0 H (wipe σ vs) (wipeR ρ vs) ∧ ∀ a, OO O0 (wipe σ vs) (wipeR ρ vs) a → OO O0 σ ρ a
  | [] => ⟨S, fun _ z => z⟩
  | v :: vs => by
    obtain ⟨S1, l1⟩ := wipe_st S vs
    exact ⟨S1.set (s := .un) (fun _ z => nomatch z) (fun _ z => nomatch z), fun a z => l1 a (OO.set_val (s := .un) (fun _ z => nomatch z) z)⟩
theorem wipeR_get (ρ : Rho) : ∀ (vs : List Nat) (i : Nat), i ∉ vs → (wipeR ρ vs)[i]? = ρ[i]?
  | [], i, _ => rfl
  | v :: vs, i, h => by
    rw [List.mem_cons, not_or] at h
    unfold wipeR
    rw [List.getElem?_set_ne (Ne.symm h.1), wipeR_get ρ vs i h.2]
theorem wipe_oo {O0 : Addr → Prop} {σ : St} {ρ : Rho} {vs : List Nat} (hn : vs.all (notOwn ρ) = true) {a : Addr} (h : OO O0 σ ρ a) : OO O0 (wipe σ vs) (wipeR ρ vs) a := by
  rcases h with h | ⟨i, ps, h1, h2⟩
  · exact .inl h
  · have hi : i ∉ vs := fun hi => by
      have := List.all_eq_true.mp hn i hi
      unfold notOwn at this
      rw [h1] at this
      cases this
    exact .inr ⟨i, ps, by rw [wipeR_get ρ vs i hi]; exact h1, by rw [wipe_get, if_neg hi]; exact h2⟩
/-- what the turns make of the items -/
def lcGo (tgt : PV → Rho → Option Rho) (test : Rho → R Bool) (elt : Rho → R PV) (ρ : Rho) : List PV → R (List PV)
  | [] => .ok []
  | p :: ps => match tgt p ρ with
    | none => .stuck
    | some ρ1 => match test ρ1 with
      | .ok true => (match elt ρ1 with
        | .ok q => (match lcGo tgt test elt ρ ps with
          | .ok qs => .ok (q :: qs)
          | _ => .stuck)
        | _ => .stuck)
      | .ok false => lcGo tgt test elt ρ ps
      | _ => .stuck
def eLc (vs : List Nat) (it : Rho → R (List PV)) (tgt : PV → Rho → Option Rho) (test : Rho → R Bool) (elt : Rho → R PV) : Rho → R PV := fun ρ =>
  if vs.all (notOwn ρ) = true then (it ρ).bind fun items => if items.length ≤ sizeLine then (match lcGo tgt test elt (wipeR ρ vs) items with
    | .ok qs => .ok (.lst qs)
    | _ => .stuck) else .stuck
  else .stuck
abbrev CJ (X : Cx) (W : WX) (ifs : List Expr) (f : Rho → R Bool) : Prop := PTs X ifs (tT X.K X.mg W f)
def cYes : Rho → R Bool := fun _ => .ok true
abbrev WF : WX := fun _ _ _ _ => False
section
variable {X : Cx} {W : WX} {e tg it : Expr} {pos : Pos} {f g h : Rho → R PV}
theorem c_nil : CJ X W [] cYes := by
  refine ⟨fun pins s σ H Q I ⟨H0, O0, ρ, S, G⟩ => pts_nil.run pins s σ H Q I (G H (Same.refl H))⟩
theorem bump {K : PySem.W.Frag} {H0 H : Hp} {O0 : Addr → Prop} {σ : St} {ρ : Rho} {D : Addr} {o : HO} (S : StR K H0 O0 H σ ρ) (hD : O0 D) (h0 : H0 D = none) : StR K H0 O0 (upd H D o) σ ρ := by
  have k : ∀ a u, H a = some u → ¬ OO O0 σ ρ a → upd H D o a = some u ∧ ¬ OO O0 σ ρ a := fun a u h n => ⟨by rw [upd_ne (fun z => n (by rw [z]; exact .inl hD))]; exact h, n⟩
  refine ⟨S.len, fun b x h => by rw [upd_ne (fun z => by rw [z, h0] at h; cases h)]; exact S.same b x h, fun a h => ?_, fun i ps h => ?_, S.dis, fun i p h => ?_, S.exs⟩
  · by_cases e : a = D
    · rw [e, upd_same]; exact fun z => nomatch z
    · rw [upd_ne e]; exact S.all0 a h
  · obtain ⟨a, vs, e1, e2, e3, e4, e5⟩ := S.own i ps h
    exact ⟨a, vs, e1, by rw [upd_ne (fun z => e4 (by rw [z]; exact hD))]; exact e2, e3, e4, e5.mono k⟩
  · obtain ⟨v, e1, e2⟩ := S.val i p h
    exact ⟨v, e1, e2.mono k⟩
/-- another address is forbidden: one that is new -/
theorem forbid {K : PySem.W.Frag} {H0 H : Hp} {O0 : Addr → Prop} {σ : St} {ρ : Rho} {D : Addr} {o : HO} (S : StR K H0 O0 H σ ρ) (hD : H D = none) : StR K H0 (fun b => O0 b ∨ b = D) (upd H D o) σ ρ := by
  have oo : ∀ a, OO (fun b => O0 b ∨ b = D) σ ρ a → OO O0 σ ρ a ∨ a = D := fun a z => by
    rcases z with (z | z) | z
    · exact .inl (.inl z)
    · exact .inr z
    · exact .inl (.inr z)
  have k : ∀ a u, H a = some u → ¬ OO O0 σ ρ a → upd H D o a = some u ∧ ¬ OO (fun b => O0 b ∨ b = D) σ ρ a := fun a u h n => ⟨same_new hD a u h, fun z => (oo a z).elim n (ne_of_none h hD)⟩
  refine ⟨S.len, fun b x h => same_new hD b x (S.same b x h), fun a h => ?_, fun i ps h => ?_, S.dis, fun i p h => ?_, S.exs⟩
  · rcases h with h | h
    · cases q : H a with
      | none => exact absurd q (S.all0 a h)
      | some u => rw [same_new hD a u q]; exact fun z => nomatch z
    · rw [h, upd_same]; exact fun z => nomatch z
  · obtain ⟨a, vs, e1, e2, e3, e4, e5⟩ := S.own i ps h
    exact ⟨a, vs, e1, same_new hD _ _ e2, e3, fun z => z.elim e4 (ne_of_none e2 hD), e5.mono k⟩
  · obtain ⟨v, e1, e2⟩ := S.val i p h
    exact ⟨v, e1, e2.mono k⟩
theorem lc_run {wi : Rho → R (List PV)} {tgt : PV → Rho → Option Rho} {test : Rho → R Bool} {elt : Rho → R PV} {vs ts : List Nat} (hts : ∀ i ∈ ts, i ∈ vs) {K : PySem.W.Frag} {mg : Str → Option Value} :
    ∀ σ H Q, tE K mg W .f (eLc vs wi tgt test elt) σ H Q → tLc (tI K mg W wi) (tG K ts tgt) (tT K mg WF test) (tE K mg WF .s elt) vs σ H Q := by
  intro σ H Q ⟨H0, O0, ρ, S, G⟩
  refine ⟨H0, O0, ρ, S, ?_⟩
  revert G
  unfold eLc
  split
  · rename_i hn
    cases wi ρ with
    | stuck => exact False.elim
    | exc c => exact fun G => G
    | ok items =>
      rw [R.bind_ok]
      split
      · rename_i hz
        intro G J H1 s1 ok D hD
        cases hq : lcGo tgt test elt (wipeR ρ vs) items with
        | stuck => rw [hq] at G; exact G.elim
        | exc c => rw [hq] at G; exact absurd G (fun G => by exact (show False from G))
        | ok qs =>
          rw [hq] at G
          have S1 := S.step s1
          obtain ⟨S2, l2⟩ := wipe_st S1 vs
          have hH0 : H0 D = none := S1.same.free hD
          have S3 : StR K H0 (fun b => O0 b ∨ b = D) (upd H1 D (.lst [])) (wipe σ vs) (wipeR ρ vs) := forbid S2 hD
          have OD : OO (fun b => O0 b ∨ b = D) (wipe σ vs) (wipeR ρ vs) D := .inl (.inr rfl)
          have oo : ∀ a, OO (fun b => O0 b ∨ b = D) (wipe σ vs) (wipeR ρ vs) a → OO O0 σ ρ a ∨ a = D := fun a z => by
            rcases z with (z | z) | z
            · exact .inl (.inl z)
            · exact .inr z
            · exact .inl (l2 a (.inr z))
          refine ⟨fun i m Hc => m = items.length - i ∧ i ≤ items.length ∧ Same H1 Hc ∧ StR K H0 (fun b => O0 b ∨ b = D) Hc (wipe σ vs) (wipeR ρ vs) ∧
              ∃ ws ps rs, Hc D = some (.lst ws) ∧ Reps K Hc (OO (fun b => O0 b ∨ b = D) (wipe σ vs) (wipeR ρ vs)) ws ps ∧ ps.length ≤ i ∧ lcGo tgt test elt (wipeR ρ vs) (items.drop i) = .ok rs ∧ qs = ps ++ rs,
            ⟨items.length, by simp, Nat.zero_le _, same_new hD, S3, [], [], qs, upd_same, .nil, Nat.zero_le _, by rw [List.drop_zero]; exact hq, rfl⟩, ?_⟩
          rintro i m Hc ⟨rfl, hi, sc, Sc, ws, ps, rs, hDc, rc, hpl, hgo, hqs⟩
          have kept : Kept (OO O0 σ ρ) H1 (OO (fun b => O0 b ∨ b = D) (wipe σ vs) (wipeR ρ vs)) Hc := fun a o h n => ⟨sc a o h, fun z => (oo a z).elim n (ne_of_none h hD)⟩
          have alloc : ∀ a, OO (fun b => O0 b ∨ b = D) (wipe σ vs) (wipeR ρ vs) a → Hc a ≠ none := fun a z => Sc.there z
          by_cases hlt : i < items.length
          · refine .inr ⟨ok.go i Hc _ kept hlt, _, fun H' n => ⟨items.length - (i + 1), by omega, rfl, hlt, n⟩, fun x Hy hy => ?_⟩
            have hg : items[i]? = some items[i] := List.getElem?_eq_getElem hlt
            obtain ⟨sy, ry⟩ := ok.yld i Hc _ x Hy _ kept alloc hg hy
            have hdr : items.drop i = items[i] :: items.drop (i + 1) := List.drop_eq_getElem_cons hlt
            rw [hdr] at hgo
            refine ⟨H0, _, wipeR ρ vs, items[i], Sc.step sy, ry, ?_⟩
            unfold lcGo at hgo
            cases ht : tgt items[i] (wipeR ρ vs) with
            | none => rw [ht] at hgo; cases hgo
            | some ρ1 =>
              rw [ht] at hgo
              intro σ2 Sg lg eg kg
              refine ⟨wipe_back eg fun j hj => (kg j fun z => hj (hts j z)).1, H0, _, ρ1, Sg, ?_⟩
              have hgo : (match test ρ1 with
                | .ok true => (match elt ρ1 with
                  | .ok q => (match lcGo tgt test elt (wipeR ρ vs) (items.drop (i + 1)) with
                    | .ok qs => .ok (q :: qs)
                    | _ => .stuck)
                  | _ => .stuck)
                | .ok false => lcGo tgt test elt (wipeR ρ vs) (items.drop (i + 1))
                | _ => .stuck) = (.ok rs : R (List PV)) := hgo
              cases hte : test ρ1 with
              | stuck => rw [hte] at hgo; cases hgo
              | exc c => rw [hte] at hgo; cases hgo
              | ok b =>
                rw [hte] at hgo
                intro H3 s3
                cases b with
                | false =>
                  rw [if_neg Bool.false_ne_true]
                  have s13 := (sc.trans sy).trans s3
                  exact ⟨s13, Sc.step (sy.trans s3), ws, ps, rs, (sy.trans s3) _ _ hDc, rc.same (sy.trans s3), by omega, hgo, hqs⟩
                | true =>
                  rw [if_pos rfl]
                  refine ⟨H0, _, ρ1, Sg.step s3, ?_⟩
                  have hgo : (match elt ρ1 with
                    | .ok q => (match lcGo tgt test elt (wipeR ρ vs) (items.drop (i + 1)) with
                      | .ok qs => .ok (q :: qs)
                      | _ => .stuck)
                    | _ => .stuck) = (.ok rs : R (List PV)) := hgo
                  cases hel : elt ρ1 with
                  | stuck => rw [hel] at hgo; cases hgo
                  | exc c => rw [hel] at hgo; cases hgo
                  | ok q =>
                    rw [hel] at hgo
                    have hgo : (match lcGo tgt test elt (wipeR ρ vs) (items.drop (i + 1)) with
                      | .ok qs => .ok (q :: qs)
                      | _ => .stuck) = (.ok rs : R (List PV)) := hgo
                    cases hre : lcGo tgt test elt (wipeR ρ vs) (items.drop (i + 1)) with
                    | stuck => rw [hre] at hgo; cases hgo
                    | exc c => rw [hre] at hgo; cases hgo
                    | ok rs' =>
                      rw [hre] at hgo
                      cases hgo
                      intro y H4 s4 r4
                      have s34 := (sy.trans s3).trans s4
                      have r4 : Rep K H4 (OO (fun b => O0 b ∨ b = D) σ2 ρ1) y q := r4
                      refine ⟨ws, s34 _ _ hDc, by rw [rc.length]; omega, ?_⟩
                      have nD : ∀ {b : Addr} {o : HO} {O : Addr → Prop}, O D → H4 b = some o → ¬ O b → upd H4 D (.lst (ws ++ [y])) b = some o ∧ ¬ O b := fun {b o O} hO h n => ⟨by rw [upd_ne (fun z => n (by rw [z]; exact hO))]; exact h, n⟩
                      refine ⟨fun b o h => ?_, bump (Sc.step s34) (.inr rfl) hH0, ws ++ [y], ps ++ [q], rs', upd_same, ?_, by rw [List.length_append]; simp; omega, rfl, by rw [hqs, List.append_assoc]; rfl⟩
                      · rw [upd_ne (ne_of_none h hD)]; exact s34 _ _ (sc _ _ h)
                      · refine Reps.append ((rc.same s34).mono fun b o h n => nD OD h n) (.cons ?_ .nil)
                        refine r4.mono fun b o h n => ?_
                        have hb : b ≠ D := fun z => n (by rw [z]; exact .inl (.inr rfl))
                        refine ⟨by rw [upd_ne hb]; exact h, fun z => ?_⟩
                        rcases z with z | ⟨j, us, z1, z2⟩
                        · exact n (.inl z)
                        · have hj : j ∉ vs := fun hj => by
                            have z3 : (wipeR ρ vs)[j]? = some (.own us) := z1
                            have z4 : (wipe σ vs)[j]? = some (some (.ref b)) := z2
                            rw [wipe_get, if_pos hj] at z4
                            split at z4 <;> cases z4
                          have kj := kg j fun z => hj (hts j z)
                          exact n (.inr ⟨j, us, by rw [kj.2]; exact z1, by rw [kj.1]; exact z2⟩)
          · have e : i = items.length := by omega
            subst e
            rw [List.drop_length] at hgo
            cases hgo
            rw [List.append_nil] at hqs
            subst hqs
            refine .inl ⟨ok.stop _ Hc _ kept (Nat.le_refl _), G _ _ (s1.trans sc) ⟨D, ws, _, rfl, rfl, s1.free hD, hDc, rc.less fun a z => ?_⟩⟩
            rcases z with z | z
            · rcases wipe_oo hn z with z | z
              · exact .inl (.inl z)
              · exact .inr z
            · rw [z]; exact OD
      · exact False.elim
  · exact False.elim
variable {ifs : List Expr} {scope : Scope} {own : List (Str × Nat)} {wi : Rho → R (List PV)} {tgt : PV → Rho → Option Rho} {test : Rho → R Bool} {elt : Rho → R PV} {ts : List Nat}
theorem e_lc (hc : X.calm = true) (hN : X.N.Nodup) (hi : IJ X W tg it wi) (ok : BlkOk X.N X.env.scope scope own) (hts : ∀ i ∈ ts, i ∈ own.map (·.2))
    (hg : ∀ (s : Shared) (H : Hp) (C : Addr) (cl : List (Str × Addr)) (fp : List Addr), GJ (X.blk s H scope (compEnvC scope cl C X.env) fp) tg ts tgt)
    (ht : ∀ (s : Shared) (H : Hp) (C : Addr) (cl : List (Str × Addr)) (fp : List Addr), CJ (X.blk s H scope (compEnvC scope cl C X.env) fp) WF ifs test)
    (he : ∀ (s : Shared) (H : Hp) (C : Addr) (cl : List (Str × Addr)) (fp : List Addr), EJ (X.blk s H scope (compEnvC scope cl C X.env) fp) WF .s e elt)
    (hs : ∀ x, foldedSetIterable it X.env x = pure x := by intro _; rfl) : EJ X W .f (.ListComp e [⟨tg, it, ifs, 0⟩] scope pos) (eLc (own.map (·.2)) wi tgt test elt) :=
  pe_imp (pe_lc hc hN hi ok hg ht he hs) (lc_run hts)
end
inductive Out where
  | next (ρ : Rho) | ret (p : PV) | brk (ρ : Rho) | cont (ρ : Rho) | exc (c : Str) (ρ : Rho) | stuck
def GotS (K : PySem.W.Frag) (mg : Str → Option Value) (W : WX) (nw : Bool) (H0 : Hp) (O0 : Addr → Prop) (σ : St) (ρ : Rho) (H : Hp) (D : Ends) : Out → Prop
  | .next ρ' => ∀ σ' H', StR K H0 O0 H' σ' ρ' → Kept (OO O0 σ ρ) H (OO O0 σ' ρ') H' → D.nx σ' H'
  | .brk ρ' => ∀ σ' H', StR K H0 O0 H' σ' ρ' → Kept (OO O0 σ ρ) H (OO O0 σ' ρ') H' → D.bk σ' H'
  | .cont ρ' => ∀ σ' H', StR K H0 O0 H' σ' ρ' → Kept (OO O0 σ ρ) H (OO O0 σ' ρ') H' → D.ct σ' H'
  | .ret p => ∀ v H', Same H0 H' → RepR K O0 nw H0 H' v p → D.rt v H'
  | .exc c ρ' => ∀ C σ' H', mg c = some (.ref C) → StR K H0 O0 H' σ' ρ' → Kept (OO O0 σ ρ) H (OO O0 σ' ρ') H' → W (.ref C) none σ' H'
  | .stuck => False
def tS (K : PySem.W.Frag) (mg : Str → Option Value) (W : WX) (nw : Bool) (g : Rho → Out) : TS := fun D σ H =>
  ∃ H0 O0 ρ, StR K H0 O0 H σ ρ ∧ GotS K mg W nw H0 O0 σ ρ H D (g ρ)
abbrev SJ (X : Cx) (W : WX) (nw : Bool) (st : Stmt) (g : Rho → Out) : Prop := PS X st (tS X.K X.mg W nw g)
abbrev BJ (X : Cx) (W : WX) (nw : Bool) (st : List Stmt) (g : Rho → Out) : Prop := PSs X st (tS X.K X.mg W nw g)
def Out.then (o : Out) (k : Rho → Out) : Out := match o with
  | .next ρ => k ρ
  | o => o
section
variable {K : PySem.W.Frag} {mg : Str → Option Value} {W : WX} {nw : Bool} {H0 H H1 : Hp} {O0 : Addr → Prop} {σ σ1 : St} {ρ ρ1 : Rho} {D : Ends}
theorem GotS.later {o : Out} (k : Kept (OO O0 σ ρ) H (OO O0 σ1 ρ1) H1) (G : GotS K mg W nw H0 O0 σ ρ H D o) : GotS K mg W nw H0 O0 σ1 ρ1 H1 D o := by
  cases o with
  | next ρ' => exact fun σ' H' S k' => G σ' H' S (k.trans k')
  | brk ρ' => exact fun σ' H' S k' => G σ' H' S (k.trans k')
  | cont ρ' => exact fun σ' H' S k' => G σ' H' S (k.trans k')
  | ret p => exact G
  | exc c ρ' => exact fun C σ' H' e S k' => G C σ' H' e S (k.trans k')
  | stuck => exact G
/-- an expression's exception, from the statement's -/
theorem exc_of {c : Str} (S : StR K H0 O0 H σ ρ) (G : GotS K mg W nw H0 O0 σ ρ H D (.exc c ρ)) : ∀ C H', Same H H' → mg c = some (.ref C) → W (.ref C) none σ H' :=
  fun C H' s e => G C σ H' e (S.step s) (Kept.same s)
theorem kept_set {i : Nat} {v : Option V} {s : Slot} (hs : ∀ ps, s ≠ .own ps) (sm : Same H H1) : Kept (OO O0 σ ρ) H (OO O0 (σ.set i v) (ρ.set i s)) H1 := fun a o h n => ⟨sm a o h, fun z => n (OO.set_val hs z)⟩
theorem kept_own {i : Nat} {a : Addr} {ps : List PV} (hn : H a = none) (sm : Same H H1) : Kept (OO O0 σ ρ) H (OO O0 (σ.set i (some (.ref a))) (ρ.set i (.own ps))) H1 := fun b o h n => ⟨sm b o h, fun z => by
  rcases z with z | ⟨j, qs, h1, h2⟩
  · exact n (.inl z)
  · by_cases e : i = j
    · subst e
      by_cases hl : i < σ.length
      · rw [List.getElem?_set_self hl] at h2; cases h2
        exact ne_of_none h hn rfl
      · rw [List.getElem?_eq_none (by rw [List.length_set]; omega)] at h2; cases h2
    · rw [List.getElem?_set_ne e] at h1 h2
      exact n (.inr ⟨j, qs, h1, h2⟩)⟩
end
section
variable {X : Cx} {W : WX} {nw : Bool} {st : Stmt} {rest : List Stmt} {e : Expr} {pos : Pos} {f : Rho → R PV} {g h : Rho → Out}
theorem ps_imp {t t' : TS} (h : PS X st t) (q : ∀ D σ H, t' D σ H → t D σ H) : PS X st t' := ⟨fun pins s σ H D I hw => h.run pins s σ H D I (q D σ H hw)⟩
theorem pss_imp {sts : List Stmt} {t t' : TS} (h : PSs X sts t) (q : ∀ D σ H, t' D σ H → t D σ H) : PSs X sts t' := ⟨fun pins s σ H D I hw => h.run pins s σ H D I (q D σ H hw)⟩
def bNil : Rho → Out := .next
def bSeq (g h : Rho → Out) : Rho → Out := fun ρ => (g ρ).then h
theorem b_nil : BJ X W nw [] bNil := by
  refine pss_imp pss_nil fun D σ H ⟨H0, O0, ρ, S, G⟩ => ?_
  exact G σ H S (Kept.refl _ _)
theorem b_cons (h1 : SJ X W nw st g) (h2 : BJ X W nw rest h) : BJ X W nw (st :: rest) (bSeq g h) := by
  refine pss_imp (pss_cons h1 h2) fun D σ H ⟨H0, O0, ρ, S, G⟩ => ⟨H0, O0, ρ, S, ?_⟩
  have G' : GotS X.K X.mg W nw H0 O0 σ ρ H D ((g ρ).then h) := G
  revert G'
  cases g ρ with
  | next ρ' => exact fun G' σ' H' S' k => ⟨H0, O0, ρ', S', GotS.later k G'⟩
  | ret p => exact fun G => G
  | brk ρ' => exact fun G => G
  | cont ρ' => exact fun G => G
  | exc c ρ' => exact fun G => G
  | stuck => exact fun G => G
/-- by an expression, then on -/
def sE (f : Rho → R PV) (k : PV → Rho → Out) : Rho → Out := fun ρ => match f ρ with
  | .ok p => k p ρ
  | .exc c => .exc c ρ
  | .stuck => .stuck
theorem got_e {K : PySem.W.Frag} {mg : Str → Option Value} {H0 H : Hp} {O0 : Addr → Prop} {σ : St} {ρ : Rho} {D : Ends} {m : Md} {k : PV → Rho → Out} {Q : VK} (S : StR K H0 O0 H σ ρ) (G : GotS K mg W nw H0 O0 σ ρ H D (sE f k ρ))
    (hk : ∀ p v H', Same H H' → RepM K O0 σ ρ m H H' v p → GotS K mg W nw H0 O0 σ ρ H D (k p ρ) → Q v H') : Got K mg W O0 σ ρ m H Q (f ρ) := by
  revert G
  unfold sE
  cases f ρ with
  | ok p => exact fun G v H' s r => hk p v H' s r G
  | exc c => exact fun G => exc_of S G
  | stuck => exact fun G => G
def sDrop (f : Rho → R PV) : Rho → Out := sE f fun _ ρ => .next ρ
theorem s_expr {m : Md} (he : EJ X W m e f) (hs : swapsWith e none pos.line X.env = pure false := by rfl) : SJ X W nw (.Expr e pos) (sDrop f) := by
  refine ps_imp (ps_expr he hs) fun D σ H ⟨H0, O0, ρ, S, G⟩ => ⟨H0, O0, ρ, S, got_e S G fun p v H' s r G => ?_⟩
  exact G σ H' (S.step s) (Kept.same s)
def sRet (f : Rho → R PV) : Rho → Out := sE f fun p _ => .ret p
theorem s_ret (he : EJ X W .s e f) : SJ X W false (.Return (some e) pos) (sRet f) := by
  refine ps_imp (ps_ret he) fun D σ H ⟨H0, O0, ρ, S, G⟩ => ⟨H0, O0, ρ, S, got_e S G fun p v H' s r G => ?_⟩
  exact G v H' (S.same.trans s) (Rep.less (fun _ z => .inl z) r)
theorem s_retF (he : EJ X W .f e f) : SJ X W true (.Return (some e) pos) (sRet f) := by
  refine ps_imp (ps_ret he) fun D σ H ⟨H0, O0, ρ, S, G⟩ => ⟨H0, O0, ρ, S, got_e S G fun p v H' s r G => ?_⟩
  obtain ⟨a, vs, ps, e1, e2, e3, e4, e5⟩ := r
  exact G v H' (S.same.trans s) ⟨a, vs, ps, e1, e2, S.same.free e3, e4, e5.less fun b z => z.elim (fun z => .inl (.inl z)) .inr⟩
/-- a list of one's own is handed back -/
def sRetO (i : Nat) : Rho → Out := fun ρ => match ρ[i]? with
  | some (.own ps) => .ret (.lst ps)
  | _ => .stuck
theorem s_retO {i : Nat} (hp : PE X e (tVar i)) : SJ X W nw (.Return (some e) pos) (sRetO i) := by
  refine ps_imp (ps_ret hp) fun D σ H ⟨H0, O0, ρ, S, G⟩ => ?_
  unfold sRetO at G
  split at G
  · rename_i ps hq
    obtain ⟨a, vs, e1, e2, e3, e4, e5⟩ := S.own i ps hq
    refine ⟨.ref a, e1, G _ _ S.same ?_⟩
    cases nw with
    | false => exact .lst e2 e4 (e5.less fun _ z => .inl z)
    | true => exact ⟨a, vs, ps, rfl, rfl, e3, e2, e5.less fun b z => z.elim .inl fun z => .inr ⟨i, ps, hq, by rw [z]; exact e1⟩⟩
  · exact G.elim
def sIf (t : Rho → R Bool) (g h : Rho → Out) : Rho → Out := fun ρ => match t ρ with
  | .ok true => g ρ
  | .ok false => h ρ
  | .exc c => .exc c ρ
  | .stuck => .stuck
theorem s_if {c : Expr} {a b : List Stmt} {t : Rho → R Bool} (hc : TJ X W c t) (ha : BJ X W nw a g) (hb : BJ X W nw b h) : SJ X W nw (.If c a b pos) (sIf t g h) := by
  refine ps_imp (ps_if hc ha hb) fun D σ H ⟨H0, O0, ρ, S, G⟩ => ⟨H0, O0, ρ, S, ?_⟩
  have G' : GotS X.K X.mg W nw H0 O0 σ ρ H D (match t ρ with
    | .ok true => g ρ
    | .ok false => h ρ
    | .exc c => .exc c ρ
    | .stuck => .stuck) := G
  revert G'
  cases t ρ with
  | ok b =>
    cases b with
    | true => exact fun G H' s => by show (if true = true then _ else _); exact iteT ⟨H0, O0, ρ, S.step s, GotS.later (Kept.same s) G⟩
    | false => exact fun G H' s => by show (if false = true then _ else _); exact iteF ⟨H0, O0, ρ, S.step s, GotS.later (Kept.same s) G⟩
  | exc c => exact fun G => exc_of S G
  | stuck => exact fun G => G
def sPass : Rho → Out := .next
def sSet (i : Nat) (f : Rho → R PV) : Rho → Out := sE f fun p ρ => .next (ρ.set i (.val p))
def sSetO (i : Nat) (f : Rho → R PV) : Rho → Out := sE f fun p ρ => match p with
  | .lst ps => .next (ρ.set i (.own ps))
  | _ => .stuck
theorem q_set {K : PySem.W.Frag} {mg : Str → Option Value} {i : Nat} {te : TE} (hte : ∀ σ H Q, tE K mg W .s f σ H Q → te σ H Q) : ∀ D σ H, tS K mg W nw (sSet i f) D σ H → tAsg te (gName i) D σ H := by
  intro D σ H ⟨H0, O0, ρ, S, G⟩
  refine hte _ _ _ ⟨H0, O0, ρ, S, got_e S G fun p v H' s r G => ?_⟩
  exact G _ H' ((S.step s).set (s := .val p) (fun _ z => nomatch z) fun q z => by cases z; exact ⟨v, rfl, r⟩) (kept_set (s := .val p) (fun _ z => nomatch z) s)
theorem q_setO {K : PySem.W.Frag} {mg : Str → Option Value} {i : Nat} {te : TE} (hte : ∀ σ H Q, tE K mg W .f f σ H Q → te σ H Q) : ∀ D σ H, tS K mg W nw (sSetO i f) D σ H → tAsg te (gName i) D σ H := by
  intro D σ H ⟨H0, O0, ρ, S, G⟩
  refine hte _ _ _ ⟨H0, O0, ρ, S, got_e S G fun p v H' s r G => ?_⟩
  obtain ⟨a, vs, ps, rfl, rfl, e3, e4, e5⟩ := r
  exact G _ H' (S.setOwn s e3 e4 e5) (kept_own e3 s)
theorem s_set {i : Nat} {x : Str} {pos' : Pos} (hN : X.N.Nodup) (hi : X.N[i]? = some x) (hx : Loc X.env.scope x) (he : EJ X W .s e f) (hs : swapsWith e (some (.Name x pos')) pos.line X.env = pure false := by rfl) (hf : X.fn x = true ∨ X.env.scope.names.lookup x = some .local := by first | exact .inl rfl | exact .inr rfl | assumption) :
    SJ X W nw (.Assign [.Name x pos'] e pos) (sSet i f) := ps_imp (ps_set hN hi hx he hs hf) (q_set fun _ _ _ z => z)
theorem s_setO {i : Nat} {x : Str} {pos' : Pos} (hN : X.N.Nodup) (hi : X.N[i]? = some x) (hx : Loc X.env.scope x) (he : EJ X W .f e f) (hs : swapsWith e (some (.Name x pos')) pos.line X.env = pure false := by rfl) (hf : X.fn x = true ∨ X.env.scope.names.lookup x = some .local := by first | exact .inl rfl | exact .inr rfl | assumption) :
    SJ X W nw (.Assign [.Name x pos'] e pos) (sSetO i f) := ps_imp (ps_set hN hi hx he hs hf) (q_setO fun _ _ _ z => z)
/-- y = [.. for ..] -/
theorem lcs {i : Nat} {y : Str} {py : Pos} {tg it : Expr} {ifs : List Expr} {scope : Scope} {own : List (Str × Nat)} {spos : Pos} {wi : Rho → R (List PV)} {tgt : PV → Rho → Option Rho} {test : Rho → R Bool} {elt : Rho → R PV} {ts : List Nat} {t : TS}
    (hq : ∀ D σ H, t D σ H → tAsg (tLc (tI X.K X.mg W wi) (tG X.K ts tgt) (tT X.K X.mg WF test) (tE X.K X.mg WF .s elt) (own.map (·.2))) (gName i) D σ H) (hc : X.calm = true) (hN : X.N.Nodup) (hy : X.N[i]? = some y) (hyl : X.env.scope.names.lookup y = some .local)
    (hsw : swapsWith (.ListComp e [⟨tg, it, ifs, 0⟩] scope pos) (some (.Name y py)) spos.line X.env = pure true) (hi : IJ X W tg it wi) (ok : BlkOk X.N X.env.scope scope own)
    (hg : ∀ (s : Shared) (H : Hp) (C : Addr) (cl : List (Str × Addr)) (fp : List Addr), GJ (X.blk s H scope (compEnvC scope cl C X.env) fp) tg ts tgt)
    (ht : ∀ (s : Shared) (H : Hp) (C : Addr) (cl : List (Str × Addr)) (fp : List Addr), CJ (X.blk s H scope (compEnvC scope cl C X.env) fp) WF ifs test)
    (he : ∀ (s : Shared) (H : Hp) (C : Addr) (cl : List (Str × Addr)) (fp : List Addr), EJ (X.blk s H scope (compEnvC scope cl C X.env) fp) WF .s e elt)
    (hs : ∀ x, foldedSetIterable it X.env x = pure x := by intro _; rfl) : PS X (.Assign [.Name y py] (.ListComp e [⟨tg, it, ifs, 0⟩] scope pos) spos) t := ps_imp (ps_setLc hc hN hy hyl hsw hi ok hg ht he hs) hq
theorem q_lcO {i : Nat} {wi : Rho → R (List PV)} {tgt : PV → Rho → Option Rho} {test : Rho → R Bool} {elt : Rho → R PV} {vs ts : List Nat} (hts : ∀ i ∈ ts, i ∈ vs) : ∀ D σ H, tS X.K X.mg W nw (sSetO i (eLc vs wi tgt test elt)) D σ H → tAsg (tLc (tI X.K X.mg W wi) (tG X.K ts tgt) (tT X.K X.mg WF test) (tE X.K X.mg WF .s elt) vs) (gName i) D σ H :=
  q_setO (lc_run hts)
/-- target = e -/
def sTo (h : PV → Rho → Option Rho) (f : Rho → R PV) : Rho → Out := sE f fun p ρ => match h p ρ with
  | some ρ' => .next ρ'
  | none => .stuck
theorem s_to {tg : Expr} {ts : List Nat} {h : PV → Rho → Option Rho} (he : EJ X W .s e f) (hg : GJ X tg ts h) (hs : swapsWithSole [tg] e pos.line X.env = pure false := by rfl) (hw : swappedStores [tg] e X.env = pure none := by rfl)
    (h1 : (assignEach [tg] X.env).map (·.2) = [assign tg X.env] := by rfl) : SJ X W nw (.Assign [tg] e pos) (sTo h f) := by
  refine ps_imp (ps_asg he hg hs hw h1) fun D σ H ⟨H0, O0, ρ, S, G⟩ => ⟨H0, O0, ρ, S, got_e S G fun p v H' s r G => ?_⟩
  refine ⟨H0, O0, ρ, p, S.step s, r, ?_⟩
  revert G
  cases h p ρ with
  | none => exact False.elim
  | some ρ' => exact fun G σ' S' l _ _ => G σ' H' S' fun a o ho n => ⟨s a o ho, fun z => n (l a z)⟩
/-- a, b = x, y -/
def sPar (i j : Nat) (fA : Rho → R (List PV)) : Rho → Out := fun ρ => match fA ρ with
  | .ok [p, q] => .next ((ρ.set i (.val p)).set j (.val q))
  | .exc c => .exc c ρ
  | _ => .stuck
theorem s_par {i j : Nat} {x y : Str} {a b : Expr} {fA : Rho → R (List PV)} {px py pt : Pos} {kt k2 pt2} (hc : X.calm = true) (hN : X.N.Nodup) (hi : X.N[i]? = some x) (hj : X.N[j]? = some y) (hij : i ≠ j)
    (hx : X.env.scope.names.lookup x = some .local) (hy : X.env.scope.names.lookup y = some .local) (ha : AJ X W .s [a, b] fA)
    (hw : swappedStores [.Tuple [.Name x px, .Name y py] kt pt] (.Tuple [a, b] k2 pt2) X.env = pure (some [x, y]))
    (hs : swapsWithSole [.Tuple [.Name x px, .Name y py] kt pt] (.Tuple [a, b] k2 pt2) pos.line X.env = pure false := by rfl) :
    SJ X W nw (.Assign [.Tuple [.Name x px, .Name y py] kt pt] (.Tuple [a, b] k2 pt2) pos) (sPar i j fA) := by
  refine ps_imp (ps_par hc hN hi hj hij hx hy ha hw hs) fun D σ H ⟨H0, O0, ρ, S, G⟩ => ⟨H0, O0, ρ, S, ?_⟩
  unfold sPar at G
  revert G
  cases fA ρ with
  | stuck => exact False.elim
  | exc c => exact fun G => exc_of S G
  | ok ps =>
    match ps with
    | [p, q] =>
      intro G vs H' s r
      obtain ⟨v, w, rfl, r1, r2⟩ := pr2 r
      refine ⟨v, w, rfl, ?_⟩
      have S1 := S.step s
      have S2 := S1.set (i := i) (v := some v) (s := .val p) (fun _ z => nomatch z) fun q z => by cases z; exact ⟨v, rfl, r1⟩
      have l1 : ∀ a, OO O0 (σ.set i (some v)) (ρ.set i (.val p)) a → OO O0 σ ρ a := fun a z => OO.set_val (s := .val p) (fun _ z => nomatch z) z
      have r2' : Rep X.K H' (OO O0 (σ.set i (some v)) (ρ.set i (.val p))) w q := Rep.less l1 r2
      have S3 := S2.set (i := j) (v := some w) (s := .val q) (fun _ z => nomatch z) fun q' z => by cases z; exact ⟨w, rfl, r2'⟩
      exact G _ H' S3 fun a o ho n => ⟨s a o ho, fun z => n (l1 a (OO.set_val (s := .val q) (fun _ z => nomatch z) z))⟩
    | [] => exact False.elim
    | [_] => exact False.elim
    | _ :: _ :: _ :: _ => exact False.elim
/-- x op= e, by values -/
def sAug (i : Nat) (g : PV → PV → R PV) (f : Rho → R PV) : Rho → Out := fun ρ => match ρ[i]? with
  | some (.val x) => sE (fun ρ => (f ρ).bind fun y => g x y) (fun z ρ => .next (ρ.set i (.val z))) ρ
  | _ => .stuck
/-- a list is let go -/
def sFrz (i : Nat) (g : Rho → Out) : Rho → Out := fun ρ => match ρ[i]? with
  | some (.own ps) => g (ρ.set i (.val (.lst ps)))
  | _ => g ρ
end
end PL
set_option Elab.async false
set_option linter.all false
set_option maxRecDepth 100000
set_option autoImplicit false
namespace PL
open PySem PySem.Spec L2
open PyProof.Rows hiding St
section
variable {X : Cx} {W : WX} {nw : Bool} {st : Stmt} {rest : List Stmt} {e : Expr} {pos : Pos} {f : Rho → R PV} {g h : Rho → Out}
def forL (tgt : PV → Rho → Option Rho) (body : Rho → Out) : List PV → Rho → Out
  | [], ρ => .next ρ
  | p :: ps, ρ => match tgt p ρ with
    | none => .stuck
    | some ρ1 => match body ρ1 with
      | .next ρ' => forL tgt body ps ρ'
      | .cont ρ' => forL tgt body ps ρ'
      | .brk ρ' => .next ρ'
      | o => o
def sFor (it : Rho → R (List PV)) (tgt : PV → Rho → Option Rho) (body : Rho → Out) : Rho → Out := fun ρ => match it ρ with
  | .ok items => forL tgt body items ρ
  | .exc c => .exc c ρ
  | .stuck => .stuck
theorem s_for {tg it : Expr} {body : List Stmt} {wi : Rho → R (List PV)} {tgt : PV → Rho → Option Rho} {ts : List Nat} (hp : PassesOwn (model X.prog X.w) X.A X.env X.xe) (hc : X.calm = true) (hi : IJ X W tg it wi) (hg : GJ X tg ts tgt) (hb : BJ X W nw body g) (hs : ∀ x, foldedSetIterable it X.env x = pure x := by intro _; rfl) : SJ X W nw (.For tg it body [] pos) (sFor wi tgt g) := by
  refine ps_imp (ps_for hp hc hi hg hb hs) fun D σ H ⟨H0, O0, ρ, S, G⟩ => ⟨H0, O0, ρ, S, ?_⟩
  have G' : GotS X.K X.mg W nw H0 O0 σ ρ H D (match wi ρ with
    | .ok items => forL tgt g items ρ
    | .exc c => .exc c ρ
    | .stuck => .stuck) := G
  revert G'
  cases wi ρ with
  | stuck => exact False.elim
  | exc c => exact fun G => exc_of S G
  | ok items =>
    intro G J H1 s1 ok
    refine ⟨fun i m σc Hc => m = items.length - i ∧ i ≤ items.length ∧ ∃ ρc, StR X.K H0 O0 Hc σc ρc ∧ Kept (OO O0 σ ρ) H1 (OO O0 σc ρc) Hc ∧ GotS X.K X.mg W nw H0 O0 σc ρc Hc D (forL tgt g (items.drop i) ρc),
      ⟨items.length, by simp, Nat.zero_le _, ρ, S.step s1, Kept.refl _ _, by rw [List.drop_zero]; exact GotS.later (Kept.same s1) G⟩, ?_⟩
    rintro i m σc Hc ⟨rfl, hi, ρc, Sc, kc, Gc⟩
    by_cases hlt : i < items.length
    · refine .inr ⟨ok.go i Hc _ kc hlt, fun σ' H' => ∃ ρ', StR X.K H0 O0 H' σ' ρ' ∧ Kept (OO O0 σ ρ) H1 (OO O0 σ' ρ') H' ∧ GotS X.K X.mg W nw H0 O0 σ' ρ' H' D (forL tgt g (items.drop (i + 1)) ρ'), fun σ' H' n => ⟨items.length - (i + 1), by omega, rfl, hlt, n⟩, fun x Hy hy => ?_⟩
      have hg : items[i]? = some items[i] := List.getElem?_eq_getElem hlt
      obtain ⟨sy, ry⟩ := ok.yld i Hc _ x Hy _ kc (fun a z => Sc.there z) hg hy
      have hdr : items.drop i = items[i] :: items.drop (i + 1) := List.drop_eq_getElem_cons hlt
      rw [hdr] at Gc
      refine ⟨H0, O0, ρc, items[i], Sc.step sy, ry, ?_⟩
      unfold forL at Gc
      revert Gc
      cases tgt items[i] ρc with
      | none => exact False.elim
      | some ρ1 =>
        intro Gc σ2 S2 l2 _ _
        have k2 : Kept (OO O0 σc ρc) Hc (OO O0 σ2 ρ1) Hy := fun a o h n => ⟨sy a o h, fun z => n (l2 a z)⟩
        refine ⟨H0, O0, ρ1, S2, ?_⟩
        have Gc' := GotS.later k2 Gc
        revert Gc'
        dsimp only
        cases g ρ1 with
        | next ρ' => exact fun Gc' σ' H' S' k' => ⟨ρ', S', (kc.trans k2).trans k', GotS.later k' Gc'⟩
        | cont ρ' => exact fun Gc' σ' H' S' k' => ⟨ρ', S', (kc.trans k2).trans k', GotS.later k' Gc'⟩
        | brk ρ' => exact fun G => G
        | ret p => exact fun G => G
        | exc c ρ' => exact fun G => G
        | stuck => exact fun G => G
    · have e : i = items.length := by omega
      subst e
      rw [List.drop_length] at Gc
      exact .inl ⟨ok.stop _ Hc _ kc (Nat.le_refl _), Gc σc Hc Sc (Kept.refl _ _)⟩
def whN (t : Rho → R Bool) (b : Rho → Out) : Nat → Rho → Out
  | 0, _ => .stuck
  | n + 1, ρ => match t ρ with
    | .stuck => .stuck
    | .exc c => .exc c ρ
    | .ok false => .next ρ
    | .ok true => match b ρ with
      | .next ρ' => whN t b n ρ'
      | .cont ρ' => whN t b n ρ'
      | .brk ρ' => .next ρ'
      | o => o
theorem whN_more {t : Rho → R Bool} {b : Rho → Out} : ∀ (n : Nat) (ρ : Rho), whN t b n ρ ≠ .stuck → whN t b (n + 1) ρ = whN t b n ρ
  | 0, ρ, h => absurd rfl h
  | n + 1, ρ, h => by
    unfold whN at h
    rw [whN]
    conv => rhs; rw [whN]
    revert h
    cases t ρ with
    | stuck => exact fun _ => rfl
    | exc c => exact fun _ => rfl
    | ok k =>
      cases k with
      | false => exact fun _ => rfl
      | true =>
        dsimp only
        cases b ρ with
        | next ρ' => exact fun h => whN_more n ρ' h
        | cont ρ' => exact fun h => whN_more n ρ' h
        | _ => exact fun _ => rfl
theorem whN_le {t : Rho → R Bool} {b : Rho → Out} {n m : Nat} {ρ : Rho} (h : whN t b n ρ ≠ .stuck) (hl : n ≤ m) : whN t b m ρ = whN t b n ρ := by
  induction m with
  | zero => rw [Nat.le_zero.mp hl]
  | succ m ih =>
    by_cases e : n = m + 1
    · rw [e]
    · have q := ih (by omega)
      rw [whN_more m ρ (by rw [q]; exact h), q]
open Classical in
noncomputable def sWh (t : Rho → R Bool) (b : Rho → Out) (ρ : Rho) : Out := if h : ∃ n, whN t b n ρ ≠ .stuck then whN t b h.choose ρ else .stuck
theorem sWh_of {t : Rho → R Bool} {b : Rho → Out} {n : Nat} {ρ : Rho} (h : whN t b n ρ ≠ .stuck) : sWh t b ρ = whN t b n ρ := by
  have hx : ∃ n, whN t b n ρ ≠ .stuck := ⟨n, h⟩
  unfold sWh
  rw [dif_pos hx]
  have hc := hx.choose_spec
  rcases Nat.le_total n hx.choose with l | l
  · exact whN_le h l
  · exact (whN_le hc l).symm
theorem sWh_ex {t : Rho → R Bool} {b : Rho → Out} {ρ : Rho} (h : sWh t b ρ ≠ .stuck) : ∃ n, whN t b n ρ = sWh t b ρ := by
  by_cases hx : ∃ n, whN t b n ρ ≠ .stuck
  · obtain ⟨n, hn⟩ := hx
    exact ⟨n, (sWh_of hn).symm⟩
  · unfold sWh at h
    rw [dif_neg hx] at h
    exact absurd rfl h
/-- one turn -/
theorem sWh_eq (t : Rho → R Bool) (b : Rho → Out) (ρ : Rho) : sWh t b ρ = (match t ρ with
    | .stuck => .stuck
    | .exc c => .exc c ρ
    | .ok false => .next ρ
    | .ok true => match b ρ with
      | .next ρ' => sWh t b ρ'
      | .cont ρ' => sWh t b ρ'
      | .brk ρ' => .next ρ'
      | o => o) := by
  have go : ∀ ρ', (∀ n, whN t b (n + 1) ρ = whN t b n ρ') → sWh t b ρ = sWh t b ρ' := fun ρ' q => by
    by_cases h : sWh t b ρ' = .stuck
    · rw [h]
      by_cases h2 : sWh t b ρ = .stuck
      · exact h2
      · obtain ⟨n, hn⟩ := sWh_ex h2
        have hn' : whN t b n ρ ≠ .stuck := by rw [hn]; exact h2
        have e : whN t b n ρ' ≠ .stuck := by rw [← q n, whN_more n ρ hn']; exact hn'
        rw [sWh_of e] at h
        exact absurd h e
    · obtain ⟨n, hn⟩ := sWh_ex h
      have e : whN t b (n + 1) ρ ≠ .stuck := by rw [q n, hn]; exact h
      rw [sWh_of e, q n, hn]
  have one : ∀ o, o ≠ .stuck → whN t b 1 ρ = o → sWh t b ρ = o := fun o ho e => by rw [← e]; exact sWh_of (by rw [e]; exact ho)
  have non : (∀ n, whN t b n ρ = .stuck) → sWh t b ρ = .stuck := fun q => by
    unfold sWh
    rw [dif_neg (fun ⟨n, hn⟩ => hn (q n))]
  cases ht : t ρ with
  | stuck => exact non fun n => by cases n with | zero => rfl | succ n => rw [whN, ht]
  | exc c => exact one _ (fun z => nomatch z) (by rw [whN, ht])
  | ok k =>
    cases k with
    | false => exact one _ (fun z => nomatch z) (by rw [whN, ht])
    | true =>
      dsimp only
      cases hb : b ρ with
      | next ρ' => exact go ρ' fun n => by rw [whN, ht]; dsimp only; rw [hb]
      | cont ρ' => exact go ρ' fun n => by rw [whN, ht]; dsimp only; rw [hb]
      | brk ρ' => exact one _ (fun z => nomatch z) (by rw [whN, ht]; dsimp only; rw [hb])
      | ret p => exact one _ (fun z => nomatch z) (by rw [whN, ht]; dsimp only; rw [hb])
      | exc c ρ' => exact one _ (fun z => nomatch z) (by rw [whN, ht]; dsimp only; rw [hb])
      | stuck => exact non fun n => by cases n with | zero => rfl | succ n => rw [whN, ht]; dsimp only; rw [hb]
theorem s_while {c : Expr} {body : List Stmt} {t : Rho → R Bool} (hp : PassesOwn (model X.prog X.w) X.A X.env X.xe) (hc : TJ X W c t) (hb : BJ X W nw body g) : SJ X W nw (.While c body [] pos) (sWh t g) := by
  refine ps_imp (ps_while hp hc hb) fun D σ H ⟨H0, O0, ρ, S, G⟩ => ?_
  have ns : sWh t g ρ ≠ .stuck := fun z => by rw [z] at G; exact G
  obtain ⟨n, hn⟩ := sWh_ex ns
  rw [← hn] at G
  refine ⟨fun m σc Hc => ∃ ρc, StR X.K H0 O0 Hc σc ρc ∧ GotS X.K X.mg W nw H0 O0 σc ρc Hc D (whN t g m ρc), ⟨n, ρ, S, G⟩, ?_⟩
  rintro m σc Hc ⟨ρc, Sc, Gc⟩
  cases m with
  | zero => exact Gc.elim
  | succ m =>
    refine ⟨H0, O0, ρc, Sc, ?_⟩
    unfold whN at Gc
    revert Gc
    cases t ρc with
    | stuck => exact False.elim
    | exc c => exact fun G => exc_of Sc G
    | ok k =>
      cases k with
      | false => exact fun G H1 s1 => iteF (G σc H1 (Sc.step s1) (Kept.same s1))
      | true =>
        dsimp only
        intro G H1 s1
        refine iteT ⟨fun σ' H' => ∃ ρ', StR X.K H0 O0 H' σ' ρ' ∧ GotS X.K X.mg W nw H0 O0 σ' ρ' H' D (whN t g m ρ'), fun σ' H' z => ⟨m, Nat.lt_succ_self m, z⟩, H0, O0, ρc, Sc.step s1, ?_⟩
        have G' := GotS.later (Kept.same s1) G
        revert G'
        cases g ρc with
        | next ρ' => exact fun Gc' σ' H' S' k' => ⟨ρ', S', GotS.later k' Gc'⟩
        | cont ρ' => exact fun Gc' σ' H' S' k' => ⟨ρ', S', GotS.later k' Gc'⟩
        | brk ρ' => exact fun G => G
        | ret p => exact fun G => G
        | exc c ρ' => exact fun G => G
        | stuck => exact fun G => G
theorem kept_write {O0 : Addr → Prop} {σ : St} {ρ : Rho} {H : Hp} {i : Nat} {a : Addr} {ps qs : List PV} {ws : List V} (h1 : ρ[i]? = some (.own ps)) (h2 : σ[i]? = some (some (.ref a))) : Kept (OO O0 σ ρ) H (OO O0 σ (ρ.set i (.own qs))) (upd H a (.lst ws)) := fun b o h n =>
  ⟨by rw [upd_ne (fun z => n (by rw [z]; exact .inr ⟨i, ps, h1, h2⟩))]; exact h, fun z => n (by
    rcases z with z | ⟨j, rs, e1, e2⟩
    · exact .inl z
    · by_cases e : i = j
      · subst e; exact .inr ⟨i, ps, h1, e2⟩
      · rw [List.getElem?_set_ne e] at e1; exact .inr ⟨j, rs, e1, e2⟩)⟩
/-- by the list of slot i and a value -/
def sMut (i : Nat) (g : List PV → PV → R (List PV)) (f : Rho → R PV) : Rho → Out := fun ρ => match ρ[i]? with
  | some (.own ps) => sE f (fun p ρ => match g ps p with
    | .ok qs => .next (ρ.set i (.own qs))
    | _ => .stuck) ρ
  | _ => .stuck
def appP (ps : List PV) (p : PV) : R (List PV) := if ps.length < sizeLine then .ok (ps ++ [p]) else .stuck
variable {o : Expr} {apos : Pos} {i : Nat}
theorem s_app (ho : PE X o (tVar i)) (he : EJ X W .s e f) (hs : swapsWith (.Call (.Attribute o "append" apos) [e] [] pos) none pos.line X.env = pure false := by rfl)
    (hbase : attributeBase o "append" X.env (eval o X.env) = eval o X.env := by rfl)
    (hfew : ((backTo pos (starEach [e] X.env)).all (fun x => !x.1) && (backToKw pos (keywordEach [] X.env)).all (fun x => x.1.isSome)
      && decide ([e].length + ([] : List Keyword).length + (if ([] : List Keyword).isEmpty then 0 else 1) < 30)) = true := by rfl)
    (hline : (apos.endLine == pos.line) = true := by rfl) (hs1 : starEach [e] X.env = (false, eval e X.env) :: starEach [] X.env := by rfl) (hplain : (backTo pos (starEach [] X.env)).any (·.1) = false := by rfl) :
    SJ X W nw (.Expr (.Call (.Attribute o "append" apos) [e] [] pos) pos) (sMut i appP f) := by
  refine ps_imp (ps_expr (pe_bm PySem.F.plainAttrs_list PySem.F.slot_list_append PySem.F.type_list_append mt_append ho (pa_cons he pa_nil hs1) hbase hfew hline hs1 hplain) hs) fun D σ H ⟨H0, O0, ρ, S, G⟩ => ?_
  unfold sMut at G
  split at G
  · rename_i ps hp
    obtain ⟨a, vs, e1, e2, e3, e4, e5⟩ := S.own i ps hp
    refine ⟨.ref a, e1, .inl ⟨rfl, vs, .inl (.inl e2)⟩, H0, O0, ρ, S, got_e S G fun p v H1 s1 r1 G => ?_⟩
    unfold appP at G
    split at G
    · rename_i qs hq
      split at hq
      · rename_i hz
        cases hq
        have r5 := (e5.same s1).append (.cons (show Rep X.K H1 (OO O0 σ ρ) v p from r1) .nil)
        exact ⟨a, vs, v, rfl, rfl, s1 _ _ e2, by rw [e5.length]; exact hz, G _ _ ((S.step s1).write hp e1 r5) ((Kept.same s1).trans (kept_write hp e1))⟩
      · cases hq
    · exact G.elim
  · exact G.elim
/-- xs[j] = e -/
def setP (ps : List PV) (p : PV) : PV → R (List PV)
  | .int k => match ixN ps.length k with
    | some j => .ok (ps.set j p)
    | none => .stuck
  | _ => .stuck
def sSetI (i : Nat) (f fi : Rho → R PV) : Rho → Out := fun ρ => match ρ[i]? with
  | some (.own ps) => sE f (fun p => sE fi fun q ρ => match setP ps p q with
    | .ok qs => .next (ρ.set i (.own qs))
    | _ => .stuck) ρ
  | _ => .stuck
theorem s_setI {ix : Expr} {fi : Rho → R PV} {p2 : Pos} (ho : PE X o (tVar i)) (he : EJ X W .s e f) (hi : EJ X W .s ix fi)
    (ha : ∀ v, assign (.Subscript o ix p2) X.env v = (do
      let ov ← holding [v] (eval o X.env)
      let iv ← holding [v, ov] (eval ix X.env)
      standAt p2
      holding [v, ov, iv] (setItem ov iv v)
      release [v, ov, iv] []) := by intro _; rfl)
    (hs : swapsWithSole [.Subscript o ix p2] e pos.line X.env = pure false := by rfl) (hw : swappedStores [.Subscript o ix p2] e X.env = pure none := by rfl)
    (h1 : (assignEach [.Subscript o ix p2] X.env).map (·.2) = [assign (.Subscript o ix p2) X.env] := by rfl) : SJ X W nw (.Assign [.Subscript o ix p2] e pos) (sSetI i f fi) := by
  refine ps_imp (ps_asg he (pg_sub ho hi set_list ha) hs hw h1) fun D σ H ⟨H0, O0, ρ, S, G⟩ => ?_
  unfold sSetI at G
  split at G
  · rename_i ps hp
    refine ⟨H0, O0, ρ, S, got_e S G fun p v H1 s1 r1 G => ?_⟩
    have r1 : Rep X.K H1 (OO O0 σ ρ) v p := r1
    have S1 := S.step s1
    obtain ⟨a, vs, e1, e2, e3, e4, e5⟩ := S1.own i ps hp
    refine ⟨.ref a, e1, H0, O0, ρ, S1, got_e S1 (GotS.later (Kept.same s1) G) fun q w H2 s2 r2 G => ?_⟩
    unfold setP at G
    split at G
    · rename_i qs hq
      split at hq
      · split at hq
        · rename_i j hj
          cases hq
          cases (show Rep X.K H2 (OO O0 σ ρ) w (.int _) from r2)
          have r5 := (e5.same s2).set (r1.same s2) j
          exact ⟨a, vs, _, j, rfl, rfl, s2 _ _ e2, by rw [e5.length]; exact hj, G _ _ ((S1.step s2).write hp e1 r5) ((Kept.same s2).trans (kept_write hp e1))⟩
        · cases hq
      · cases hq
    · exact G.elim
  · exact G.elim
/-- what is known of a class of errors of the text's own -/
structure ExcT (K : PySem.W.Frag) (mg : Str → Option Value) (x : Str) (C : Addr) : Prop where
  g : mg x = some (.ref C)
  ex : PySem.W.excIn K C [.type "ValueError", .type "Exception", .type "BaseException", .type "object"] "ValueError.__new__" = true
  kp : PySem.W.keepIn K (.ref C) = true
  sb : PySem.W.subIn K (.ref C) (.type "BaseException") = some true
  ty : PySem.W.typeIn K (.ref C) = some (.type "type")
def sRaise (x : Str) : Rho → Out := .exc x
theorem s_raise {x m : Str} {C : Addr} {j : Nat} {p p2 p3 : Pos} (T : ExcT X.K X.mg x C) (hc : X.calm = true) (tk : L2N.Takes X W) (hg : Gl X x) (hdb : (x == ("__debug__" : Str)) = false := by decide) : SJ X W nw (.Raise (some (.Call (.Name x p) [.Constant (.str m) j p2] [] p3)) none pos) (sRaise x) := by
  refine ps_imp (L2N.ps_raise hc tk (L2N.pmk_own PySem.F.excBase_ValueError T.ex T.g T.kp (raises_own T.sb T.ty) hg hdb)) fun D σ H ⟨H0, O0, ρ, S, G⟩ => ?_
  exact G C σ H T.g S (Kept.refl _ _)
end
def runF (n : Nat) (g : Rho → Out) : List PV → R PV := fun ps => match g (ps.map Slot.val ++ List.replicate (n - ps.length) Slot.un) with
  | .ret p => .ok p
  | .next _ => .ok .non
  | .exc c _ => .exc c
  | _ => .stuck
theorem start_st {K : PySem.W.Frag} {H : Hp} {O : Addr → Prop} {vs : List V} {ps : List PV} {N : List Str} (al : ∀ a, O a → H a ≠ none) (r : Reps K H O vs ps) : StR K H O H (L2.start N vs) (ps.map Slot.val ++ List.replicate (N.length - ps.length) Slot.un) := by
  have hl := r.length
  have noown : ∀ (i : Nat) qs, (ps.map Slot.val ++ List.replicate (N.length - ps.length) Slot.un)[i]? ≠ some (.own qs) := fun i qs e => by
    have := List.mem_of_getElem? e
    rcases List.mem_append.mp this with z | z
    · obtain ⟨p, _, z⟩ := List.mem_map.mp z
      cases z
    · cases (List.mem_replicate.mp z).2
  have oo : ∀ a, OO O (L2.start N vs) (ps.map Slot.val ++ List.replicate (N.length - ps.length) Slot.un) a → O a := fun a z => by
    rcases z with z | ⟨i, qs, h1, _⟩
    · exact z
    · exact absurd h1 (noown i qs)
  refine ⟨by unfold L2.start; simp [hl], Same.refl H, al, fun i qs h => absurd h (noown i qs), fun i j a qs rs h => absurd h (noown i qs), fun i p h => ?_, fun i a h => by
    have := List.mem_of_getElem? h
    rcases List.mem_append.mp this with z | z
    · obtain ⟨p, _, z⟩ := List.mem_map.mp z
      cases z
    · cases (List.mem_replicate.mp z).2⟩
  by_cases hi : i < ps.length
  · rw [List.getElem?_append_left (by rw [List.length_map]; exact hi), List.getElem?_map] at h
    cases hq : ps[i]? with
    | none => rw [hq] at h; cases h
    | some q =>
      rw [hq] at h
      cases h
      obtain ⟨v, h1, h2⟩ := r.get hq
      refine ⟨v, ?_, h2.less oo⟩
      unfold L2.start
      rw [List.getElem?_append_left (by rw [List.length_map, hl]; exact hi), List.getElem?_map, h1]
      rfl
  · rw [List.getElem?_append_right (by rw [List.length_map]; omega)] at h
    have := List.mem_of_getElem? h
    cases (List.mem_replicate.mp this).2
section
variable {P : Program} {w : World} {K : PySem.W.Frag} {mg : Str → Option Value} {base : Heap}
theorem Fun_okN {x qual : Str} {st : Stmt} {f : Addr} {fd : FuncData} {N ps : List Str} {k : Nat} {sp : Sp} (F : Fun K x qual st f fd) (S : FnScope N ps (defScope st)) (len : ∀ vs H Q E, sp vs H Q E → vs.length = ps.length)
    (hbody : ∀ (cdv : Value) (A : Around) (outer : List PySem.Env) (s : Shared) (H : Hp) (vs : List V) (Q : VK) (E : XK), Room k (A.deeper (envOfC qual (defScope st) s.heap.objs.size f cdv)) → sp vs H Q E →
      ∃ t, PSs (cxOf (L2N.CX P w) P w K mg base N qual (defScope st) f cdv A outer s H E) (defBody st) t ∧ t { nx := fun _ H' => Q .non H', rt := Q } (L2.start N vs) H) : FnOk P w K mg base (L2N.CX P w) (k + 1) f fd ps sp := by
  obtain ⟨oc, od, kV, doc, pm, an, cdv, ct, osl, rfl, lk, hcd⟩ := F.ex
  exact fn_of lk hcd S len fun A outer s H vs Q E hr hsp => hbody cdv A outer s H vs Q E hr hsp
theorem fn_mk {x qual : Str} {st : Stmt} {f : Addr} {fd : FuncData} {N ps : List Str} {k n : Nat} {nw : Bool} {g : Rho → Out} (F : Fun K x qual st f fd) (S : FnScope N ps (defScope st)) (hn : n = ps.length) (hnw : nw = true → ∀ l, ∀ ρ, g l ≠ .next ρ)
    (hbody : ∀ (cdv : Value) (A : Around) (outer : List PySem.Env) (s : Shared) (H : Hp) (E : XK), Room k (A.deeper (envOfC qual (defScope st) s.heap.objs.size f cdv)) →
      BJ (cxOf (L2N.CX P w) P w K mg base N qual (defScope st) f cdv A outer s H E) (fun cls d _ H => E cls d H) nw (defBody st) g) :
    FnOk P w K mg base (L2N.CX P w) (k + 1) f fd ps (spF K mg n nw (runF N.length g)) := by
  refine Fun_okN F S (fun vs H Q E h => ?_) (fun cdv A outer s H vs Q E hr h => ?_)
  · obtain ⟨_, _, _, _, e, _⟩ := h
    rw [e, hn]
  · obtain ⟨qs, O, al, r, e, h⟩ := h
    refine ⟨_, hbody cdv A outer s H E hr, H, O, _, start_st al r, ?_⟩
    have h' : (match runF N.length g qs with
      | .ok p => ∀ v H', Same H H' → RepR K O nw H H' v p → Q v H'
      | .exc c => ∀ C H', Same H H' → mg c = some (.ref C) → E (.ref C) none H'
      | .stuck => False) := h
    unfold runF at h'
    revert h'
    cases hg : g (qs.map Slot.val ++ List.replicate (N.length - qs.length) Slot.un) with
    | ret p => exact fun h v H' s r => h v H' s r
    | next ρ' =>
      intro h σ' H' S' _
      cases nw with
      | false => exact h _ _ S'.same .non
      | true => exact absurd hg (hnw rfl _ _)
    | exc c ρ' => exact fun h C σ' H' e S' _ => h C H' S'.same e
    | brk ρ' => exact False.elim
    | cont ρ' => exact False.elim
    | stuck => exact False.elim
/-- from inside a def: what a body's statements need of its context -/
theorem tk_of {N : List Str} {qual : Str} {scope : Scope} {f : Addr} {cdv : Value} {A : Around} {outer : List PySem.Env} {s : Shared} {H : Hp} {E : XK} : L2N.Takes (cxOf (L2N.CX P w) P w K mg base N qual scope f cdv A outer s H E) (fun cls d _ H => E cls d H) := L2N.takes_of rfl rfl rfl rfl
theorem hp_of {N : List Str} {qual : Str} {scope : Scope} {f : Addr} {cdv : Value} {A : Around} {outer : List PySem.Env} {s : Shared} {H : Hp} {E : XK} : PassesOwn (model P w) (cxOf (L2N.CX P w) P w K mg base N qual scope f cdv A outer s H E).A (cxOf (L2N.CX P w) P w K mg base N qual scope f cdv A outer s H E).env (cxOf (L2N.CX P w) P w K mg base N qual scope f cdv A outer s H E).xe := passes_of rfl
end
structure DefT (K : PySem.W.Frag) (mg : Str → Option Value) (x : Str) (st : Stmt) (ps : List Str) (f : Addr) (fd : FuncData) : Prop where
  F : Fun K x x st f fd
  g : mg x = some (.ref f)
  b : L2.Binds K fd ps []
def DefE (K : PySem.W.Frag) (mg : Str → Option Value) (x : Str) (st : Stmt) (ps : List Str) : Prop := ∃ f fd, DefT K mg x st ps f fd
def Okd (P : Program) (w : World) (K : PySem.W.Frag) (mg : Str → Option Value) (base : Heap) (x : Str) (ps : List Str) (k n : Nat) (nw : Bool) (F : List PV → R PV) : Prop :=
  ∃ f fd, mg x = some (.ref f) ∧ PySem.W.keepIn K (.ref f) = true ∧ L2.Binds K fd ps [] ∧ FnOk P w K mg base (L2N.CX P w) k f fd ps (spF K mg n nw F)
section
variable {P : Program} {w : World} {K : PySem.W.Frag} {mg : Str → Option Value} {base : Heap}
theorem def_ok {x : Str} {st : Stmt} {N ps : List Str} {k n : Nat} {nw : Bool} {g : Rho → Out} (T : DefE K mg x st ps) (S : FnScope N ps (defScope st)) (hn : n = ps.length) (hnw : nw = true → ∀ l, ∀ ρ, g l ≠ .next ρ)
    (hbody : ∀ (f : Addr) (cdv : Value) (A : Around) (outer : List PySem.Env) (s : Shared) (H : Hp) (E : XK), Room k (A.deeper (envOfC x (defScope st) s.heap.objs.size f cdv)) →
      BJ (cxOf (L2N.CX P w) P w K mg base N x (defScope st) f cdv A outer s H E) (fun cls d _ H => E cls d H) nw (defBody st) g) :
    Okd P w K mg base x ps (k + 1) n nw (runF N.length g) := by
  obtain ⟨f, fd, T⟩ := T
  exact ⟨f, fd, T.g, T.F.kp, T.b, fn_mk T.F S hn hnw (hbody f)⟩
variable {X : Cx} {W : WX} {e : Expr} {es : List Expr} {pos p : Pos} {fA : Rho → R (List PV)}
theorem aCons_len {f : Rho → R PV} {g : Rho → R (List PV)} {n : Nat} (h : ∀ ρ ps, g ρ = .ok ps → ps.length = n) : ∀ ρ ps, aCons f g ρ = .ok ps → ps.length = n + 1 := by
  intro ρ ps e
  unfold aCons at e
  revert e
  cases f ρ with
  | ok a =>
    rw [R.bind_ok]
    cases hg : g ρ with
    | ok qs =>
      intro e
      cases e
      rw [List.length_cons, h ρ qs hg]
    | exc c => exact fun e => nomatch e
    | stuck => exact fun e => nomatch e
  | exc c => exact fun e => nomatch e
  | stuck => exact fun e => nomatch e
theorem aNil_len : ∀ ρ ps, aNil ρ = .ok ps → ps.length = 0 := by
  intro ρ ps e
  cases e
  rfl
/-- the parts' lengths, read off the syntax -/
inductive ALen : (Rho → R (List PV)) → Nat → Prop where
  | nil : ALen aNil 0
  | cons {f : Rho → R PV} {g : Rho → R (List PV)} {n : Nat} : ALen g n → ALen (aCons f g) (n + 1)
theorem ALen.ok {g : Rho → R (List PV)} {n : Nat} (h : ALen g n) : ∀ ρ ps, g ρ = .ok ps → ps.length = n := by
  induction h with
  | nil => exact aNil_len
  | cons _ ih => exact aCons_len ih
theorem e_callD {x : Str} {k j n : Nat} {nw : Bool} {F : List PV → R PV} {pn : List Str} (h : Okd X.prog X.w X.K X.mg X.base x pn j n nw F) (hr : Room k X.A) (hjk : j ≤ k) (tk : L2N.Takes X W) (hg : Gl X x) (ha : AJ X W .s (e :: es) fA) (hal : ALen fA n) (hlen : n = es.length + 1 := by rfl) (hdb : (x == ("__debug__" : Str)) = false := by decide)
    (he : starEach (e :: es) X.env = (false, eval e X.env) :: starEach es X.env := by rfl) (hpl : (backTo pos (starEach es X.env)).any (·.1) = false := by rfl) : EJ X W (mdR nw) (.Call (.Name x p) (e :: es) [] pos) (eD F fA) := by
  obtain ⟨f, fd, h1, h2, h3, h4⟩ := h
  have q := e_call (p := p) (pos := pos) (dvs := []) (dps := []) (ds := []) h4 (hr.mono hjk) hg h1 h2 h3 .nil (fun _ _ => .nil) tk ha (by rw [hlen]; rfl) (by rw [← hlen]; exact hal.ok) hdb he hpl
  have e' : eD (fun ps => F (ps ++ [])) fA = eD F fA := by
    funext ρ
    unfold eD
    congr
    funext ps
    rw [List.append_nil]
  rw [e'] at q
  exact q
end
/-- the law's own promise: of the script -/
def spLaw (K : PySem.W.Frag) : Sp := fun vs H Q _ => ∃ (a : Addr) (ns : List Int), vs = [.ref a] ∧ SqL K H a (ns.map V.int) ∧ Only H ∧ ns.length ≤ 63 ∧ (∀ z ∈ ns, Builtin.Int.intBits z ≤ 1048576) ∧ ∀ v H', v = .bl true → Q v H'
theorem bits_log {z : Int} (h : Builtin.Int.intBits z ≤ 1048576) : z.natAbs.log2 < 1048577 := by
  unfold Builtin.Int.intBits at h
  split at h
  · rename_i e
    have e : z.natAbs = 0 := by simpa using e
    rw [e, Nat.log2_zero]; omega
  · omega
/-- bits: each of the script's numbers has at most 2 ^ 20 of them -/
theorem law_impB {P : Program} {w : World} {K : PySem.W.Frag} {mg : Str → Option Value} {base : Heap} {k : Nat} {f : Addr} {fd : FuncData} {ps : List Str} {F : List PV → R PV} (hF : ∀ ns : List Int, ns.length ≤ 63 → (∀ z ∈ ns, z.natAbs.log2 < 1048577) → F [.frz (ns.map PV.int)] = .ok (.bl true))
    (h : FnOk P w K mg base (L2N.CX P w) k f fd ps (spF K mg 1 false F)) : FnOk P w K mg base (L2N.CX P w) k f fd ps (spLaw K) := by
  refine h.imp fun vs H Q E ⟨a, ns, e1, hs, ho, hl, hb, q⟩ => ?_
  subst e1
  refine ⟨[.frz (ns.map PV.int)], fun _ => False, fun _ z => z.elim, .cons (.frz ?_) .nil, rfl, ?_⟩
  · rcases hs with (hs | hs) | hs
    · rcases ho a with z | ⟨o, xs, z⟩
      · rw [z] at hs; cases hs
      · rw [z] at hs; cases hs
    · exact .inl ⟨hs, fun z => z⟩
    · exact .inr fun _ => .inr hs
  · rw [hF ns hl fun z hz => bits_log (hb z hz)]
    intro v H' s r
    cases r
    exact q _ _ rfl
theorem cx_none {P : Program} {w : World} {H : Hp} {s : Shared} {e : Value} {s' : Shared} (h : L2N.CX P w [] H s (fun _ _ _ => False) e s') : False := by
  obtain ⟨_, _, _, _, _, _, _, _, _, _, _, _, z⟩ := h
  exact z
end PL
set_option Elab.async false
set_option linter.all false
set_option maxRecDepth 100000
set_option autoImplicit false
namespace PL
open PySem PySem.Spec L2
open PyProof.Rows hiding St
section
variable {X : Cx} {W : WX} {e a b c : Expr} {pos p : Pos} {f g : Rho → R PV} {es : List Expr} {fA : Rho → R (List PV)}
/-- a constant of the text's top -/
def GlI (mg : Str → Option Value) (x : Str) (i : Int) : Prop := ∃ t, mg x = some (.int i t)
theorem e_glI {x : Str} {i : Int} (h : GlI X.mg x i) (hg : Gl X x) (hd : (x == ("__debug__" : Str)) = false := by decide) : EJ X W .s (.Name x pos) (eC (.int i)) := by
  obtain ⟨t, h⟩ := h
  exact e_const (pe_glob hg h (v := .int i) ⟨t, rfl⟩ hd) fun _ _ _ => .int i
end
def NN (g : Rho → Out) : Prop := ∀ l ρ, g l ≠ .next ρ
theorem nn_e {f : Rho → R PV} {k : PV → Rho → Out} (h : ∀ p l ρ, k p l ≠ .next ρ) : NN (sE f k) := by
  intro l ρ e
  unfold sE at e
  revert e
  cases f l with
  | ok p => exact h p l ρ
  | exc c => exact fun e => nomatch e
  | stuck => exact fun e => nomatch e
theorem nn_ret (f : Rho → R PV) : NN (sRet f) := nn_e fun _ _ _ e => nomatch e
theorem nn_retO (i : Nat) : NN (sRetO i) := by
  intro l ρ e
  unfold sRetO at e
  split at e <;> cases e
theorem nn_seqL {g h : Rho → Out} (a : NN g) : NN (bSeq g h) := by
  intro l ρ e
  unfold bSeq at e
  have n := a l
  revert e n
  cases g l with
  | next ρ1 => exact fun _ n => absurd rfl (n ρ1)
  | _ => exact fun e => nomatch e
theorem nn_seqR {g h : Rho → Out} (a : NN h) : NN (bSeq g h) := by
  intro l ρ e
  unfold bSeq at e
  revert e
  cases g l with
  | next ρ1 => exact fun e => a ρ1 ρ e
  | _ => exact fun e => nomatch e
section
variable {K : PySem.W.Frag} {h : Heap} {mg : Str → Option Value}
theorem defE_mk (X : K.In h) (G : h.Ns mainGlobals mg) {x : Str} {st : Stmt} {ps : List Str} {f : Addr} {od an : Option Addr} {sl : Array (Option Value)} {oc kV dc pm cd ct : Value}
    (a : PySem.W.nsIn K mainGlobals x = some (some (.ref f))) (l : K.lookup f = some ⟨oc, od, .func (PySem.W.fnOf x x (defArgs st) (defBody st) (defScope st) .none kV dc pm an cd ct), sl⟩) (c : PySem.W.codeIn K cd x = true) (k : PySem.W.keepIn K (.ref f) = true)
    (hb : ∀ (kV doc pm : Value) (an : Option Addr) (cdv ct : Value) (us : List Value), us.length = ps.length → bindArgs (PySem.W.fnOf x x (defArgs st) (defBody st) (defScope st) .none kV doc pm an cdv ct) ⟨us, []⟩ = pure (ps.zip us)) : DefE K mg x st ps :=
  ⟨f, _, fun_mk l c k, PySem.W.mg_of X G a, (fun_mk l c k).binds hb⟩
theorem glI_mk (X : K.In h) (G : h.Ns mainGlobals mg) {x : Str} {i : Int} {t : Tok} (a : PySem.W.nsIn K mainGlobals x = some (some (.int i t))) : GlI mg x i := ⟨t, PySem.W.mg_of X G a⟩
theorem excE_mk (X : K.In h) (G : h.Ns mainGlobals mg) {x : Str} {C : Addr} (a : PySem.W.nsIn K mainGlobals x = some (some (.ref C))) (ex : PySem.W.excIn K C [.type "ValueError", .type "Exception", .type "BaseException", .type "object"] "ValueError.__new__" = true)
    (kp : PySem.W.keepIn K (.ref C) = true) (sb : PySem.W.subIn K (.ref C) (.type "BaseException") = some true) (ty : PySem.W.typeIn K (.ref C) = some (.type "type")) : ∃ C, ExcT K mg x C := ⟨C, PySem.W.mg_of X G a, ex, kp, sb, ty⟩
end
end PL
set_option Elab.async false
set_option linter.all false
set_option maxRecDepth 100000
set_option autoImplicit false
namespace PL
open PySem PySem.Spec L2
open PyProof.Rows hiding St
/-- the classes of errors: the one is under the other -/
def subX (c d : Str) : Bool := d == c || d == "LeftError" || d == "ValueError"
/-- a class that isinstance is asked about -/
def ClsQ (K : PySem.W.Frag) (mg : Str → Option Value) (C : Addr) (c d : Str) (u : Value) : Prop := PySem.W.kitOne K (.ref C) u = some (subX c d)
/-- the caught error p, of the class c -/
structure Pn (K : PySem.W.Frag) (mg : Str → Option Value) (p : Addr × Obj) (c : Str) (C : Addr) : Prop where
  g : mg c = some (.ref C)
  x : ExcC K C
  z : L2N.Zn (.ref C) none p.2
  f : ∃ vs, p.2.data = .fields vs
/-- the context bears the caught error a, of the class c -/
def InAir (X : Cx) (a : Addr) (c : Str) : Prop := ∃ oe C, (a, oe) ∈ X.pn ∧ Pn X.K X.mg (a, oe) c C
def isX (i : Nat) (a : Addr) (b : Bool) : Rho → R PV := fun ρ => match ρ[i]? with
  | some (.ex a') => if a' = a then .ok (.bl b) else .stuck
  | _ => .stuck
section
variable {X : Cx} {W : WX} {e en : Expr} {pos p : Pos} {i : Nat} {a : Addr} {c d : Str} {b : Bool}
/-- a name that stands for a class d, u in the heap -/
inductive ClsN (X : Cx) : Expr → Str → Value → Prop where
  | own {x : Str} {C : Addr} {q : Pos} (hg : Gl X x) (hm : X.mg x = some (.ref C)) (hd : (x == ("__debug__" : Str)) = false) : ClsN X (.Name x q) x (.ref C)
  | ty {x : Str} {n : String} {q : Pos} (h : PE X (.Name x q) (tC (.ty n))) : ClsN X (.Name x q) x (.type n)
theorem ClsN.pe {u : Value} (h : ClsN X en d u) : ∃ v, ClsV v u ∧ PE X en (tC v) := by
  cases h with
  | own hg hm hd => exact ⟨_, .own _, pe_glob hg hm (v := .ref _) rfl hd⟩
  | ty h => exact ⟨_, .ty _, h⟩
theorem inst_at {X : Cx} {a C : Addr} {oe : Obj} {s : Shared} (P : Pn X.K X.mg (a, oe) c C) (hget : s.heap.get? a = some oe) : PySem.W.InstAt s.heap a oe C none := by
  obtain ⟨vs, hv⟩ := P.f
  have hz := P.z.zc
  obtain ⟨k1, k2, k3, k4⟩ := oe
  obtain ⟨h1, h2⟩ := hz
  simp only at h1 h2 hv
  subst h1 h2 hv
  exact ⟨hget, rfl, rfl, trivial⟩
theorem call_isX {C : Addr} {oe : Obj} (hp : (a, oe) ∈ X.pn) (P : Pn X.K X.mg (a, oe) c C) : CallR X (.builtin "isinstance") (fun xs H Q => ∃ v u b, xs = [V.ref a, v] ∧ ClsV v u ∧ PySem.W.kitOne X.K (.ref C) u = some b ∧ Q (.bl b) H) := by
  intro pins s σ H xs us Q I r ⟨v, u, b, e1, k, e2, q⟩
  subst e1
  obtain ⟨w1, w2, e3, r1, r2⟩ := vals2 r
  subst e3
  cases (show w1 = Value.ref a from r1)
  have e4 := k.eq r2
  subst e4
  have J := inst_at P (I.pin (a, oe) (List.mem_append_left _ hp)).1
  exact PySem.W.kia_one (PySem.W.handS_kitx_exc P.x.hg P.x.hk P.x.hs P.x.hd P.x.ha P.x.hn P.x.ht P.x.hm) I.kIn J e2 (fun z => nomatch z) fun tk => ⟨.bl b, H, I.tok tk, rfl, q⟩
theorem call_isXT {C : Addr} {oe : Obj} (hp : (a, oe) ∈ X.pn) (P : Pn X.K X.mg (a, oe) c C) : CallR X (.builtin "isinstance") (fun xs H Q => ∃ tp cs us b, xs = [V.ref a, .ref tp] ∧ H tp = some (.tup cs) ∧ Paired ClsV cs us ∧ PySem.W.kitAny X.K (.ref C) us = some b ∧ Q (.bl b) H) := by
  intro pins s σ H xs us Q I r ⟨tp, cs, ws, b, e1, hT, k, e2, q⟩
  subst e1
  obtain ⟨w1, w2, e3, r1, r2⟩ := vals2 r
  subst e3
  cases (show w1 = Value.ref a from r1)
  cases (show w2 = Value.ref tp from r2)
  obtain ⟨_, its, rv, o, h1, h2, n, h3⟩ := (show ObjOk X.prog X.w H s.heap tp (.tup cs) from I.hok tp _ hT)
  have e4 := ClsV.all k rv
  subst e4
  obtain ⟨k1, k2, k3, k4⟩ := o
  dsimp only at h2 h3
  subst h2 h3
  have J := inst_at P (I.pin (a, oe) (List.mem_append_left _ hp)).1
  exact PySem.W.kia_tup (PySem.W.handS_kitx_exc P.x.hg P.x.hk P.x.hs P.x.hd P.x.ha P.x.hn P.x.ht P.x.hm) I.kIn J h1 e2 (fun z => nomatch z) fun tk => ⟨.bl b, H, I.tok tk, rfl, q⟩
theorem exs_at {K : PySem.W.Frag} {H0 H : Hp} {O0 : Addr → Prop} {σ : St} {ρ : Rho} (S : StR K H0 O0 H σ ρ) (h : ρ[i]? = some (.ex a)) : σ[i]? = some (some (.ref a)) := S.exs i a h
/-- isinstance(e, D), e the caught error -/
theorem e_isX {u : Value} (A : InAir X a c) (mg : X.mg "isinstance" = none) (hg : Gl X "isinstance") (ho : PE X e (tVar i)) (hn : ClsN X en d u) (hk : ∀ C, X.mg c = some (.ref C) → ClsQ X.K X.mg C c d u) (he : starEach [e, en] X.env = (false, eval e X.env) :: starEach [en] X.env := by rfl) (he2 : starEach [en] X.env = (false, eval en X.env) :: starEach [] X.env := by rfl) (hpl : (backTo pos (starEach [en] X.env)).any (·.1) = false := by rfl) :
    EJ X W .s (.Call (.Name "isinstance" p) [e, en] [] pos) (isX i a (subX c d)) := by
  obtain ⟨oe, C, hp, P⟩ := A
  obtain ⟨v, hv, hpe⟩ := hn.pe
  refine pe_imp (pe_callB (call_isX hp P) hg mg PyProof.Rows.boot_isinstance (pa_cons ho (pa_cons hpe pa_nil he2) he) (by decide) (by decide) he hpl) fun σ H Q ⟨H0, O0, ρ, S, G⟩ => ?_
  unfold isX at G
  split at G
  · rename_i a' ha
    split at G
    · rename_i ea
      subst ea
      exact ⟨.ref a', exs_at S ha, v, u, _, rfl, hv, hk C P.g, G _ _ (Same.refl _) (.bl _)⟩
    · exact G.elim
  · exact G.elim
/-- the classes of a tuple -/
inductive ClsL (X : Cx) : List Expr → List Str → List Value → Prop where
  | nil : ClsL X [] [] []
  | cons {en : Expr} {ens : List Expr} {d : Str} {ds : List Str} {u : Value} {us : List Value} (h : ClsN X en d u) (r : ClsL X ens ds us) (he : starEach (en :: ens) X.env = (false, eval en X.env) :: starEach ens X.env) : ClsL X (en :: ens) (d :: ds) (u :: us)
def tCs (vs : List V) : TA := fun _ H Q => Q vs H
theorem ClsL.pa {ens : List Expr} {ds : List Str} {us : List Value} (h : ClsL X ens ds us) : ∃ vs, vs.length = ens.length ∧ Paired ClsV vs us ∧ PA X ens (tCs vs) := by
  induction h with
  | nil => exact ⟨[], rfl, .nil, ⟨fun pos pins s σ H Q I q => pa_nil.run pos pins s σ H Q I q⟩⟩
  | cons h r he ih =>
    obtain ⟨vs, l, pv, pa⟩ := ih
    obtain ⟨v, hv, hpe⟩ := h.pe
    exact ⟨v :: vs, by rw [List.length_cons, l]; rfl, .cons hv pv, ⟨fun pos pins s σ H Q I q => (pa_cons hpe pa he).run pos pins s σ H Q I q⟩⟩
theorem kitAny_X {K : PySem.W.Frag} {mg : Str → Option Value} {C : Addr} : ∀ {ds : List Str} {us : List Value}, Paired (ClsQ K mg C c) ds us → PySem.W.kitAny K (.ref C) us = some (ds.any (subX c))
  | _, _, .nil => kitAny_nil
  | _, _, .cons h r => kitAny_cons h (fun e => by rw [List.any_cons, e, Bool.false_or]; exact kitAny_X r) fun e => by rw [List.any_cons, e]; rfl
theorem e_isXT {ens : List Expr} {ds : List Str} {us : List Value} {k : Nat} {pt : Pos} (A : InAir X a c) (mg : X.mg "isinstance" = none) (hg : Gl X "isinstance") (ho : PE X e (tVar i)) (hn : ClsL X ens ds us) (hz : ens.length ≤ 64) (hk : ∀ C, X.mg c = some (.ref C) → Paired (ClsQ X.K X.mg C c) ds us) (he : starEach [e, .Tuple ens k pt] X.env = (false, eval e X.env) :: starEach [.Tuple ens k pt] X.env := by rfl)
    (he2 : starEach [.Tuple ens k pt] X.env = (false, eval (.Tuple ens k pt) X.env) :: starEach [] X.env := by rfl) (hpl : (backTo pos (starEach [.Tuple ens k pt] X.env)).any (·.1) = false := by rfl) :
    EJ X W .s (.Call (.Name "isinstance" p) [e, .Tuple ens k pt] [] pos) (isX i a (ds.any (subX c))) := by
  obtain ⟨oe, C, hp, P⟩ := A
  obtain ⟨vs, l, pv, pa⟩ := hn.pa
  refine pe_imp (pe_callB (call_isXT hp P) hg mg PyProof.Rows.boot_isinstance (pa_cons ho (pa_cons (pe_tup pa) pa_nil he2) he) (by decide) (by decide) he hpl) fun σ H Q ⟨H0, O0, ρ, S, G⟩ => ?_
  unfold isX at G
  split at G
  · rename_i a' ha
    split at G
    · rename_i ea
      subst ea
      refine ⟨.ref a', exs_at S ha, ?_⟩
      refine ⟨by rw [l, sizeLine_eq]; omega, fun t ht => ⟨t, vs, us, _, rfl, upd_same, pv, kitAny_X (hk C P.g), G _ _ (same_new ht) (.bl _)⟩⟩
    · exact G.elim
  · exact G.elim
end
/-- the call of such a def -/
def hotC (i : Nat) (a : Addr) (F : Addr → R PV) : Rho → R PV := fun ρ => match ρ[i]? with
  | some (.ex a') => if a' = a then (match F a with
    | .ok p => .ok p
    | _ => .stuck) else .stuck
  | _ => .stuck
/-- behind the suite -/
def behindX (i : Nat) : Out → Out
  | .next ρ => .next (ρ.set i .un)
  | .brk ρ => .brk (ρ.set i .un)
  | .cont ρ => .cont (ρ.set i .un)
  | .ret p => .ret p
  | _ => .stuck
open Classical in
noncomputable def tryX (i : Nat) (su : Addr → Rho → Out) (ρ : Rho) : Out := if h : ∃ o, ∀ a, behindX i (su a (ρ.set i (.ex a))) = o then h.choose else .stuck
theorem tryX_of {i : Nat} {su : Addr → Rho → Out} {ρ : Rho} {o : Out} (h : ∀ a, behindX i (su a (ρ.set i (.ex a))) = o) : tryX i su ρ = o := by
  have hx : ∃ o, ∀ a, behindX i (su a (ρ.set i (.ex a))) = o := ⟨o, h⟩
  unfold tryX
  rw [dif_pos hx]
  exact (hx.choose_spec 0).symm.trans (h 0)
theorem tryX_at {i : Nat} {su : Addr → Rho → Out} {ρ : Rho} (h : tryX i su ρ ≠ .stuck) (a : Addr) : behindX i (su a (ρ.set i (.ex a))) = tryX i su ρ := by
  by_cases hx : ∃ o, ∀ a, behindX i (su a (ρ.set i (.ex a))) = o
  · obtain ⟨o, ho⟩ := hx
    rw [tryX_of ho, ho a]
  · unfold tryX at h
    rw [dif_neg hx] at h
    exact absurd rfl h
/-- the context of the suite -/
def suiteC (X : Cx) (a : Addr) (pn : List (Addr × Obj)) : Cx := X.suite a pn
/-- cs: the classes that the clause may take -/
noncomputable def sTry (i : Nat) (cs : List Str) (body : Rho → Out) (su : Str → Addr → Rho → Out) : Rho → Out := fun ρ => match body ρ with
  | .exc c ρ' => if c ∈ cs then tryX i (su c) ρ' else .stuck
  | o => o
section
variable {X : Cx} {W : WX} {nw : Bool} {x n : Str} {cv : Value} {i : Nat} {body suite : List Stmt} {b₀ : Stmt} {np pos pos' : Pos} {g : Rho → Out} {su : Str → Addr → Rho → Out} {cs : List Str}
theorem s_try (hs : X.stack = X.env :: X.outer) (hf : X.env.frame = some X.env.locals) (hN : X.N.Nodup) (hi : X.N[i]? = some n) (hln : X.env.kindOf n = some .local) (hc : Names X x cv) (tk : L2N.Takes X W)
    (hex : ∀ c ∈ cs, ∀ C, X.mg c = some (.ref C) → PySem.W.exmOne X.K (.ref C) cv = some true ∧ ExcC X.K C)
    (hb : ∀ (W' : WX) (pn : List (Addr × Obj)) (xe : Value → Shared → Prop), L2N.Takes (X.tr pn xe) W' → PassesOwn (model X.prog X.w) X.A X.env xe → BJ (X.tr pn xe) W' nw body g)
    (hsu : ∀ (p : Addr × Obj) (pn : List (Addr × Obj)) (c : Str) (C : Addr), c ∈ cs → Pn X.K X.mg p c C → L2H.Hot1 (X.A.mark (some (.ref p.1))) p → BJ (suiteC X p.1 (p :: pn)) (fun _ _ _ _ => False) nw (b₀ :: suite) (su c p.1)) :
    SJ X W nw (.Try body [.ExceptHandler (some (.Name x np)) (some n) (b₀ :: suite) pos'] [] [] pos) (sTry i cs g su) := by
  refine ps_imp (L2N.ps_try_as (tb := fun W' => tS X.K X.mg W' nw g) (ts := fun a cls d D σ H => ∃ c C, c ∈ cs ∧ cls = .ref C ∧ d = none ∧ X.mg c = some (.ref C) ∧ ExcC X.K C ∧ tS X.K X.mg (fun _ _ _ _ => False) nw (su c a) D σ H) hs hf hN hi hln hc tk hb (fun a oe cls d pn hz hv => ⟨fun pins s σ H D I ⟨c, C, hcs, e1, e2, hm, hC, h⟩ => ?_⟩)) fun D σ H ⟨H0, O0, ρ, S, G⟩ => ⟨H0, O0, ρ, S, ?_⟩
  · subst e1 e2
    obtain ⟨vs, hv'⟩ := hv
    exact (hsu (a, oe) pn c C hcs ⟨hm, hC, hz, vs, hv'⟩ ⟨rfl, vs, hv', hz.2.2 vs hv'⟩).run pins s σ H D I h
  · unfold sTry at G
    revert G
    cases g ρ with
    | next ρ' => exact fun G => G
    | brk ρ' => exact fun G => G
    | cont ρ' => exact fun G => G
    | ret p => exact fun G => G
    | stuck => exact fun G => G
    | exc c ρ' =>
      dsimp only
      split
      · rename_i hcs
        intro G C σ' H' hm S' k'
        obtain ⟨h1, h2⟩ := hex c hcs C hm
        refine ⟨true, h1, fun _ a na => ⟨c, C, hcs, rfl, rfl, hm, h2, ?_⟩, fun z => nomatch z⟩
        have ns : tryX i (su c) ρ' ≠ .stuck := fun z => by rw [z] at G; exact G
        have ea := tryX_at ns a
        rw [← ea] at G
        have S2 : StR X.K H0 O0 H' (σ'.set i (some (.ref a))) (ρ'.set i (.ex a)) := S'.set (s := .ex a) (fun _ z => nomatch z) (fun _ z => nomatch z) fun b z => by cases z; rfl
        have k2 : Kept (OO O0 σ ρ) H (OO O0 (σ'.set i (some (.ref a))) (ρ'.set i (.ex a))) H' := k'.trans (kept_set (s := .ex a) (fun _ z => nomatch z) (Same.refl _))
        refine ⟨H0, O0, _, S2, ?_⟩
        have back : ∀ {σ2 : St} {ρ2 : Rho} {H2 : Hp}, StR X.K H0 O0 H2 σ2 ρ2 → Kept (OO O0 (σ'.set i (some (.ref a))) (ρ'.set i (.ex a))) H' (OO O0 σ2 ρ2) H2 → StR X.K H0 O0 H2 (σ2.set i none) (ρ2.set i .un) ∧ Kept (OO O0 σ ρ) H (OO O0 (σ2.set i none) (ρ2.set i .un)) H2 := fun S3 k3 =>
          ⟨S3.set (s := .un) (fun _ z => nomatch z) (fun _ z => nomatch z), (k2.trans k3).trans (kept_set (s := .un) (fun _ z => nomatch z) (Same.refl _))⟩
        revert G
        cases su c a (ρ'.set i (.ex a)) with
        | next ρ2 => exact fun G σ2 H2 S3 k3 => G _ _ (back S3 k3).1 (back S3 k3).2
        | brk ρ2 => exact fun G σ2 H2 S3 k3 => G _ _ (back S3 k3).1 (back S3 k3).2
        | cont ρ2 => exact fun G σ2 H2 S3 k3 => G _ _ (back S3 k3).1 (back S3 k3).2
        | ret p => exact fun G => G
        | exc c ρ2 => exact fun G => G.elim
        | stuck => exact fun G => G.elim
      · exact fun G => G.elim
end
theorem takesN {X : Cx} : L2N.Takes X (fun _ _ _ _ => False) := fun _ _ x => by
  obtain ⟨_, _, _, _, _, _, _, _, _, _, _, _, _, _, _, _, z⟩ := x
  exact z.elim
def KQ (K : PySem.W.Frag) (mg : Str → Option Value) (c d : Str) : Prop := ∀ C D, mg c = some (.ref C) → mg d = some (.ref D) → PySem.W.kitOne K (.ref C) (.ref D) = some (subX c d)
def KE (K : PySem.W.Frag) (mg : Str → Option Value) (c d : Str) : Prop := ∀ C D, mg c = some (.ref C) → mg d = some (.ref D) → PySem.W.exmOne K (.ref C) (.ref D) = some true ∧ ExcC K C
theorem fa_nil {α : Type} {P : α → Prop} : ∀ c ∈ ([] : List α), P c := fun _ h => nomatch h
theorem fa_cons {α : Type} {P : α → Prop} {c : α} {l : List α} (h : P c) (r : ∀ c ∈ l, P c) : ∀ d ∈ c :: l, P d := fun d hd => by
  rcases List.mem_cons.mp hd with e | hd
  · rw [e]; exact h
  · exact r d hd
section
variable {K : PySem.W.Frag} {h : Heap} {mg : Str → Option Value} {c d : Str} {U V' : Addr}
theorem kq_mk (X : K.In h) (G : h.Ns mainGlobals mg) {b : Bool} (a1 : PySem.W.nsIn K mainGlobals c = some (some (.ref U))) (a2 : PySem.W.nsIn K mainGlobals d = some (some (.ref V'))) (k : PySem.W.kitOne K (.ref U) (.ref V') = some b) (hb : b = subX c d) : KQ K mg c d := fun C D h1 h2 => by
  cases h1.symm.trans (PySem.W.mg_of X G a1)
  cases h2.symm.trans (PySem.W.mg_of X G a2)
  rw [← hb]; exact k
theorem subX_VE {c : Str} : subX c "ValueError" = true := by
  unfold subX
  rw [show (("ValueError" : Str) == "ValueError") = true by decide, Bool.or_true]
theorem kv_mk (X : K.In h) (G : h.Ns mainGlobals mg) (a1 : PySem.W.nsIn K mainGlobals c = some (some (.ref U))) (k : PySem.W.kitOne K (.ref U) (.type "ValueError") = some true) : ∀ C, mg c = some (.ref C) → PySem.W.kitOne K (.ref C) (.type "ValueError") = some (subX c "ValueError") := fun C h1 => by
  cases h1.symm.trans (PySem.W.mg_of X G a1)
  rw [subX_VE]
  exact k
theorem ke_mk (X : K.In h) (G : h.Ns mainGlobals mg) (a1 : PySem.W.nsIn K mainGlobals c = some (some (.ref U))) (a2 : PySem.W.nsIn K mainGlobals d = some (some (.ref V'))) (lb : PySem.W.subIn K (.ref V') (.type "BaseException") = some true) (ld : PySem.W.hasDictIn K V' = true) (lt : PySem.W.typeIn K (.ref V') = some (.type "type")) (s : PySem.W.subIn K (.ref U) (.ref V') = some true) (x : ExcC K U) : KE K mg c d := fun C D h1 h2 => by
  cases h1.symm.trans (PySem.W.mg_of X G a1)
  cases h2.symm.trans (PySem.W.mg_of X G a2)
  exact ⟨PySem.W.exm_ref lb ld lt s, x⟩
end
end PL
set_option Elab.async false
set_option linter.all false
set_option maxRecDepth 100000
set_option autoImplicit false
namespace PL
open PySem PySem.Spec L2
open PyProof.Rows hiding St
def DefED (K : PySem.W.Frag) (mg : Str → Option Value) (x : Str) (st : Stmt) (ps : List Str) : Prop :=
  ∃ f fd ds, mg x = some (.ref f) ∧ FunD K x x (defArgs st) (defBody st) (defScope st) [.int 1] [] f fd ∧ L2.Binds K fd ps [] ∧ Vals [V.int 1] ds ∧ L2.Binds K fd ps ds
section
variable {P : Program} {w : World} {K : PySem.W.Frag} {mg : Str → Option Value} {base : Heap}
theorem defED_mk {h : Heap} (X : K.In h) (G : h.Ns mainGlobals mg) {x p q : Str} {st : Stmt} {f T : Addr} {od an td : Option Addr} {sl sl2 : Array (Option Value)} {oc kV dc pm cd ct tc : Value} {m : Nat} {t : Tok}
    (a : PySem.W.nsIn K mainGlobals x = some (some (.ref f))) (l : K.lookup f = some ⟨oc, od, .func (PySem.W.fnOf x x (defArgs st) (defBody st) (defScope st) (.ref T) kV dc pm an cd ct), sl⟩) (c : PySem.W.codeIn K cd x = true) (k : PySem.W.keepIn K (.ref f) = true)
    (lt : K.lookup T = some ⟨tc, td, .seq #[.int 1 t] m, sl2⟩)
    (h2 : ∀ (T : Addr) (kV doc pm : Value) (an : Option Addr) (cdv ct : Value) (us its : List Value), us.length = 2 → its.length = 1 → ∃ k, bindArgs (PySem.W.fnOf x x (defArgs st) (defBody st) (defScope st) (.ref T) kV doc pm an cdv ct) ⟨us, []⟩ = seqItems? (.ref T) >>= k ∧ k (some its.toArray) = pure ([p, q].zip (us ++ its.drop 1)))
    (h1 : ∀ (T : Addr) (kV doc pm : Value) (an : Option Addr) (cdv ct : Value) (us its : List Value), us.length = 1 → its.length = 1 → ∃ k, bindArgs (PySem.W.fnOf x x (defArgs st) (defBody st) (defScope st) (.ref T) kV doc pm an cdv ct) ⟨us, []⟩ = seqItems? (.ref T) >>= k ∧ k (some its.toArray) = pure ([p, q].zip (us ++ its.drop 0))) : DefED K mg x st [p, q] := by
  have F : FunD K x x (defArgs st) (defBody st) (defScope st) [.int 1] [] f (PySem.W.fnOf x x (defArgs st) (defBody st) (defScope st) (.ref T) kV dc pm an cd ct) :=
    ⟨⟨oc, od, _, kV, dc, pm, an, cd, ct, sl, rfl, l, c, .inr ⟨(fun z => nomatch z), T, _, [.int 1 t], m, rfl, lt, rfl, .cons ⟨t, rfl⟩ .nil⟩, .inl rfl⟩, k⟩
  obtain ⟨ds, v1, b1⟩ := F.binds1 1 0 (fun z => nomatch z) rfl h1
  obtain ⟨ds0, v0, b0⟩ := F.binds1 2 1 (fun z => nomatch z) rfl h2
  cases (show Vals [] ds0 from v0)
  exact ⟨f, _, ds, PySem.W.mg_of X G a, F, b0, v1, b1⟩
/-- called with the default -/
def OkD1 (P : Program) (w : World) (K : PySem.W.Frag) (mg : Str → Option Value) (base : Heap) (x : Str) (ps : List Str) (k n : Nat) (nw : Bool) (F : List PV → R PV) : Prop :=
  ∃ f fd ds, mg x = some (.ref f) ∧ PySem.W.keepIn K (.ref f) = true ∧ Vals [V.int 1] ds ∧ L2.Binds K fd ps ds ∧ FnOk P w K mg base (L2N.CX P w) k f fd ps (spF K mg n nw F)
theorem fn_mkD {x qual : Str} {st : Stmt} {f : Addr} {fd : FuncData} {dvs : List V} {N ps : List Str} {k n : Nat} {nw : Bool} {g : Rho → Out} (F : FunD K x qual (defArgs st) (defBody st) (defScope st) dvs [] f fd) (S : FnScope N ps (defScope st)) (hn : n = ps.length) (hnw : nw = true → ∀ l, ∀ ρ, g l ≠ .next ρ)
    (hbody : ∀ (cdv : Value) (A : Around) (outer : List PySem.Env) (s : Shared) (H : Hp) (E : XK), Room k (A.deeper (envOfC qual (defScope st) s.heap.objs.size f cdv)) →
      BJ (cxOf (L2N.CX P w) P w K mg base N qual (defScope st) f cdv A outer s H E) (fun cls d _ H => E cls d H) nw (defBody st) g) :
    FnOk P w K mg base (L2N.CX P w) (k + 1) f fd ps (spF K mg n nw (runF N.length g)) := by
  refine F.ok S (fun vs H Q E h => ?_) (fun cdv A outer s H vs Q E hr h => ?_)
  · obtain ⟨_, _, _, _, e, _⟩ := h
    rw [e, hn]
  · obtain ⟨qs, O, al, r, e, h⟩ := h
    refine ⟨_, hbody cdv A outer s H E hr, H, O, _, start_st al r, ?_⟩
    have h' : (match runF N.length g qs with
      | .ok p => ∀ v H', Same H H' → RepR K O nw H H' v p → Q v H'
      | .exc c => ∀ C H', Same H H' → mg c = some (.ref C) → E (.ref C) none H'
      | .stuck => False) := h
    unfold runF at h'
    revert h'
    cases hg : g (qs.map Slot.val ++ List.replicate (N.length - qs.length) Slot.un) with
    | ret p => exact fun h v H' s r => h v H' s r
    | next ρ' =>
      intro h σ' H' S' _
      cases nw with
      | false => exact h _ _ S'.same .non
      | true => exact absurd hg (hnw rfl _ _)
    | exc c ρ' => exact fun h C σ' H' e S' _ => h C H' S'.same e
    | brk ρ' => exact False.elim
    | cont ρ' => exact False.elim
    | stuck => exact False.elim
theorem def_okD {x : Str} {st : Stmt} {N ps : List Str} {k n : Nat} {nw : Bool} {g : Rho → Out} (T : DefED K mg x st ps) (S : FnScope N ps (defScope st)) (hn : n = ps.length) (hnw : nw = true → ∀ l, ∀ ρ, g l ≠ .next ρ)
    (hbody : ∀ (f : Addr) (cdv : Value) (A : Around) (outer : List PySem.Env) (s : Shared) (H : Hp) (E : XK), Room k (A.deeper (envOfC x (defScope st) s.heap.objs.size f cdv)) →
      BJ (cxOf (L2N.CX P w) P w K mg base N x (defScope st) f cdv A outer s H E) (fun cls d _ H => E cls d H) nw (defBody st) g) :
    Okd P w K mg base x ps (k + 1) n nw (runF N.length g) ∧ OkD1 P w K mg base x ps (k + 1) n nw (runF N.length g) := by
  obtain ⟨f, fd, ds, hm, F, b0, v1, b1⟩ := T
  have q := fn_mkD F S hn hnw (hbody f)
  exact ⟨⟨f, fd, hm, F.kp, b0, q⟩, f, fd, ds, hm, F.kp, v1, b1, q⟩
end
section
variable {X : Cx} {W : WX} {e : Expr} {es : List Expr} {pos p : Pos} {fA : Rho → R (List PV)}
theorem e_callD1 {x : Str} {k j n : Nat} {nw : Bool} {F : List PV → R PV} {pn : List Str} (h : OkD1 X.prog X.w X.K X.mg X.base x pn j n nw F) (hr : Room k X.A) (hjk : j ≤ k) (tk : L2N.Takes X W) (hg : Gl X x) (ha : AJ X W .s (e :: es) fA) {m : Nat} (hal : ALen fA m) (hlen : n = es.length + 1 + 1 := by rfl) (hm : m = es.length + 1 := by rfl) (hdb : (x == ("__debug__" : Str)) = false := by decide)
    (he : starEach (e :: es) X.env = (false, eval e X.env) :: starEach es X.env := by rfl) (hpl : (backTo pos (starEach es X.env)).any (·.1) = false := by rfl) : EJ X W (mdR nw) (.Call (.Name x p) (e :: es) [] pos) (eD (fun ps => F (ps ++ [.int 1])) fA) := by
  obtain ⟨f, fd, ds, h1, h2, h3, h4, h5⟩ := h
  exact e_call (p := p) (pos := pos) (dvs := [.int 1]) (dps := [.int 1]) (ds := ds) h5 (hr.mono hjk) hg h1 h2 h4 h3 (fun _ _ => .cons (.int 1) .nil) tk ha hlen (by rw [← hm]; exact hal.ok) hdb he hpl
end
end PL
set_option Elab.async false
set_option linter.all false
set_option maxRecDepth 100000
set_option autoImplicit false
namespace PL
open PySem PySem.Spec L2
open PyProof.Rows hiding St
end PL
set_option Elab.async false
set_option linter.all false
set_option maxRecDepth 100000
set_option autoImplicit false
namespace PL
open PySem PySem.Spec L2
open PyProof.Rows hiding St
end PL
set_option Elab.async false
set_option linter.all false
set_option maxRecDepth 100000
set_option autoImplicit false
namespace PL
open PySem PySem.Spec L2
open PyProof.Rows hiding St
/-- an equation that is not taken for a computation -/
theorem nr {α : Sort _} {a b : α} (h : a = b) : a = b := h
section
variable {p q x y : PV} {ρ : Rho} {f g h : Rho → R PV} {i j : Nat} {a b c : Int} {k l : Bool} {ps qs : List PV} {s t : Slot}
@[simp] theorem eC_eq : eC p ρ = .ok p := nr rfl
@[simp] theorem eV0 : eV 0 (.val p :: ρ) = .ok p := nr rfl
@[simp] theorem eVs : eV (i + 1) (s :: ρ) = eV i ρ := by simp [eV]
@[simp] theorem eVo0 : eVo 0 (.val p :: ρ) = .ok p := nr rfl
@[simp] theorem eVo0' : eVo 0 (.own ps :: ρ) = .ok (.lst ps) := nr rfl
@[simp] theorem eVos : eVo (i + 1) (s :: ρ) = eVo i ρ := by simp [eVo]
@[simp] theorem bind1 {α β : Type} (a : α) (k : α → R β) : (R.ok a).bind k = k a := nr rfl
@[simp] theorem bind2 {α β : Type} (c : Str) (k : α → R β) : (R.exc c : R α).bind k = .exc c := nr rfl
@[simp] theorem bind3 {α β : Type} (k : α → R β) : (R.stuck : R α).bind k = .stuck := nr rfl
@[simp] theorem e2_eq {w : PV → PV → R PV} : e2 w f g ρ = (f ρ).bind fun x => (g ρ).bind fun y => w x y := nr rfl
@[simp] theorem e1_eq {w : PV → R PV} : e1 w f ρ = (f ρ).bind w := nr rfl
@[simp] theorem eD_eq {w : List PV → R PV} {fA : Rho → R (List PV)} : eD w fA ρ = (fA ρ).bind w := nr rfl
@[simp] theorem aNil_eq : aNil ρ = .ok [] := nr rfl
@[simp] theorem aCons_eq {fA : Rho → R (List PV)} : aCons f fA ρ = (f ρ).bind fun p => (fA ρ).bind fun ps => .ok (p :: ps) := nr rfl
@[simp] theorem tB1_eq : tB1 f ρ = (f ρ).bind asB := nr rfl
@[simp] theorem asB_eq : asB (.bl k) = .ok k := nr rfl
@[simp] theorem asI_eq : asI (.int a) = .ok a := nr rfl
@[simp] theorem tNt_eq {u : Rho → R Bool} : tNt u ρ = (u ρ).bind fun b => .ok (!b) := nr rfl
@[simp] theorem tAn_eq {u v : Rho → R Bool} : tAn u v ρ = (u ρ).bind fun b => if b = true then v ρ else .ok false := nr rfl
@[simp] theorem tOr_eq {u v : Rho → R Bool} : tOr' u v ρ = (u ρ).bind fun b => if b = true then .ok true else v ρ := nr rfl
@[simp] theorem eAn_eq : eAn f g ρ = (f ρ).bind fun p => (asB p).bind fun b => if b = true then g ρ else .ok (.bl false) := nr rfl
@[simp] theorem eOr_eq : eOr f g ρ = (f ρ).bind fun p => (asB p).bind fun b => if b = true then .ok (.bl true) else g ρ := nr rfl
@[simp] theorem notP_eq : notP (.bl k) = .ok (.bl (!k)) := nr rfl
@[simp] theorem negP_eq : negP (.int a) = .ok (.int (-a)) := nr rfl
@[simp] theorem eIf_eq {u : Rho → R Bool} : eIf u f g ρ = (u ρ).bind fun b => if b = true then f ρ else g ρ := nr rfl
@[simp] theorem eChain_eq {w1 w2 : PV → PV → R PV} : eChain w1 w2 f g h ρ = (f ρ).bind fun x => (g ρ).bind fun y => (w1 x y).bind fun z => (asB z).bind fun k => if k = true then (h ρ).bind fun w => w2 y w else .ok (.bl false) := nr rfl
@[simp] theorem addP_ii : addP (.int a) (.int b) = .ok (.int (a + b)) := nr rfl
@[simp] theorem iadd_ii : intP (fun _ _ => true) (fun a b => PV.int (a + b)) (.int a) (.int b) = .ok (.int (a + b)) := nr rfl
@[simp] theorem subP_ii : subP (.int a) (.int b) = .ok (.int (a - b)) := nr rfl
@[simp] theorem ltP_ii : ltP (.int a) (.int b) = .ok (.bl (decide (a < b))) := nr rfl
@[simp] theorem leP_ii : leP (.int a) (.int b) = .ok (.bl (decide (a ≤ b))) := nr rfl
@[simp] theorem gtP_ii : gtP (.int a) (.int b) = .ok (.bl (decide (b < a))) := nr rfl
@[simp] theorem geP_ii : geP (.int a) (.int b) = .ok (.bl (decide (b ≤ a))) := nr rfl
theorem mulP_ii (h : okMul a b = true) : mulP (.int a) (.int b) = .ok (.int (a * b)) := by
  show (if okMul a b = true then _ else _) = _
  rw [if_pos h]
theorem modP_ii (h : b ≠ 0) : modP (.int a) (.int b) = .ok (.int (a.fmod b)) := by
  show (if decide (b ≠ 0) = true then _ else _) = _
  rw [if_pos (decide_eq_true h)]
theorem modP_pos (h : 0 < b) : modP (.int a) (.int b) = .ok (.int (a % b)) := by
  rw [modP_ii (by omega), Int.fmod_eq_emod_of_nonneg a (by omega)]
theorem log2_lt {n m : Nat} (h : n < 2 ^ m) (hm : 0 < m) : n.log2 < m := by
  by_cases h0 : n = 0
  · subst h0; simpa using hm
  · exact (Nat.log2_lt h0).mpr h
theorem fdivP_ii (h : b ≠ 0) (h2 : b.natAbs < 2 ^ 9000) : fdivP (.int a) (.int b) = .ok (.int (a.fdiv b)) := by
  show (if okDiv a b = true then _ else _) = _
  have h3 : b.natAbs.log2 < 9000 := log2_lt h2 (by omega)
  rw [if_pos]
  show (decide (b ≠ 0) && decide (b.natAbs.log2 < 9000)) = true
  rw [decide_eq_true h, decide_eq_true h3] <;> rfl
theorem fdivP_pos (h : 0 < b) (h2 : b < 2 ^ 9000) : fdivP (.int a) (.int b) = .ok (.int (a / b)) := by
  rw [fdivP_ii (by omega) (by omega), Int.fdiv_eq_ediv_of_nonneg a (by omega)]
theorem okMul_of {m n : Nat} (ha : a.natAbs < 2 ^ m) (hb : b.natAbs < 2 ^ n) (h : m + n ≤ 100000000) (hm : 0 < m) (hn : 0 < n) : okMul a b = true := by
  have h1 := log2_lt ha hm
  have h2 := log2_lt hb hn
  exact decide_eq_true (by omega)
theorem powP_ii (h0 : 0 ≤ b) (h1 : b ≤ 1000000) (h2 : a.natAbs < 2 ^ 64) : powP (.int a) (.int b) = .ok (.int (a ^ b.toNat)) := by
  show (if okPow a b = true then _ else _) = _
  rw [if_pos]
  show (decide (0 ≤ b) && decide (b ≤ 1000000) && decide (a.natAbs < 2 ^ 64)) = true
  rw [decide_eq_true h0, decide_eq_true h1, decide_eq_true h2] <;> rfl
/-- what may be compared -/
@[simp] theorem okD_int {n : Nat} : okD n (.int a) = true := by cases n <;> rfl
@[simp] theorem okD_bl {n : Nat} : okD n (.bl k) = true := by cases n <;> rfl
@[simp] theorem okD_non {n : Nat} : okD n .non = true := by cases n <;> rfl
@[simp] theorem okD_lst {n : Nat} : okD (n + 1) (.lst ps) = ps.all (okD n) := nr rfl
@[simp] theorem okD_tup {n : Nat} : okD (n + 1) (.tup ps) = ps.all (okD n) := nr rfl
@[simp] theorem okD_frz {n : Nat} : okD (n + 1) (.frz ps) = ps.all (okD n) := nr rfl
@[simp] theorem okD_str {n : Nat} {z : Str} : okD n (.str z) = PyData.strOk z := by cases n <;> rfl
@[simp] theorem eqV_ii : eqV' (.int a) (.int b) = (a == b) := by simp only [eqV']
@[simp] theorem eqV_bb : eqV' (.bl k) (.bl l) = (k == l) := by simp only [eqV']
@[simp] theorem eqV_ss {u v : Str} : eqV' (.str u) (.str v) = (u == v) := by simp only [eqV']
@[simp] theorem eqV_ll : eqV' (.lst ps) (.lst qs) = eqVs ps qs := by simp only [eqV']
@[simp] theorem eqV_tt : eqV' (.tup ps) (.tup qs) = eqVs ps qs := by simp only [eqV']
@[simp] theorem eqVs_nn : eqVs [] [] = true := by simp only [eqVs]
@[simp] theorem eqVs_cc : eqVs (p :: ps) (q :: qs) = (eqV' p q && eqVs ps qs) := by simp only [eqVs]
@[simp] theorem eqVs_cn : eqVs (p :: ps) [] = false := by simp only [eqVs]
@[simp] theorem eqVs_nc : eqVs [] (q :: qs) = false := by simp only [eqVs]
theorem eqP_ok (h : okD 30 p = true) (h2 : okD 30 q = true) : eqP p q = .ok (.bl (eqV' p q)) := by
  unfold eqP; rw [h, h2, Bool.and_self, if_pos rfl]
theorem neP_ok (h : okD 30 p = true) (h2 : okD 30 q = true) : neP p q = .ok (.bl (!eqV' p q)) := by
  unfold neP; rw [h, h2, Bool.and_self, if_pos rfl]
@[simp] theorem eqP_ii : eqP (.int a) (.int b) = .ok (.bl (a == b)) := by rw [eqP_ok okD_int okD_int, eqV_ii]
@[simp] theorem neP_ii : neP (.int a) (.int b) = .ok (.bl (!(a == b))) := by rw [neP_ok okD_int okD_int, eqV_ii]
@[simp] theorem eqP_bb : eqP (.bl k) (.bl l) = .ok (.bl (k == l)) := by rw [eqP_ok okD_bl okD_bl, eqV_bb]
@[simp] theorem neP_bb : neP (.bl k) (.bl l) = .ok (.bl (!(k == l))) := by rw [neP_ok okD_bl okD_bl, eqV_bb]
/-- kinds -/
@[simp] theorem isi_ii : isiP "int" (.int a) = .ok (.bl true) := by have e : kitB "int" "int" = some true := by decide +kernel
                                                                    unfold isiP tyN; rw [e]
@[simp] theorem isi_ib : isiP "int" (.bl k) = .ok (.bl true) := by have e : kitB "bool" "int" = some true := by decide +kernel
                                                                   unfold isiP tyN; rw [e]
@[simp] theorem isi_in : isiP "int" .non = .ok (.bl false) := by have e : kitB "NoneType" "int" = some false := by decide +kernel
                                                                 unfold isiP tyN; rw [e]
@[simp] theorem isi_is {z : Str} : isiP "int" (.str z) = .ok (.bl false) := by have e : kitB "str" "int" = some false := by decide +kernel
                                                                               unfold isiP tyN; rw [e]
@[simp] theorem isi_it : isiP "int" (.tup ps) = .ok (.bl false) := by have e : kitB "tuple" "int" = some false := by decide +kernel
                                                                      unfold isiP tyN; rw [e]
@[simp] theorem isi_il : isiP "int" (.lst ps) = .ok (.bl false) := by have e : kitB "list" "int" = some false := by decide +kernel
                                                                      unfold isiP tyN; rw [e]
@[simp] theorem isi_if : isiP "int" (.frz ps) = .ok (.bl false) := by have e : kitB "list" "int" = some false := by decide +kernel
                                                                      unfold isiP tyN; rw [e]
@[simp] theorem isi_id : isiP "int" .dct = .ok (.bl false) := by have e : kitB "dict" "int" = some false := by decide +kernel
                                                                 unfold isiP tyN; rw [e]
@[simp] theorem isi_bi : isiP "bool" (.int a) = .ok (.bl false) := by have e : kitB "int" "bool" = some false := by decide +kernel
                                                                      unfold isiP tyN; rw [e]
@[simp] theorem isi_bb : isiP "bool" (.bl k) = .ok (.bl true) := by have e : kitB "bool" "bool" = some true := by decide +kernel
                                                                    unfold isiP tyN; rw [e]
def isT : PV → Bool
  | .tup _ => true
  | _ => false
def isL : PV → Bool
  | .lst _ | .frz _ => true
  | _ => false
theorem isi_tuple : isiP "tuple" p = .ok (.bl (isT p)) := by
  have e1 : kitB "NoneType" "tuple" = some false := by decide +kernel
  have e2 : kitB "bool" "tuple" = some false := by decide +kernel
  have e3 : kitB "int" "tuple" = some false := by decide +kernel
  have e4 : kitB "str" "tuple" = some false := by decide +kernel
  have e5 : kitB "tuple" "tuple" = some true := by decide +kernel
  have e6 : kitB "list" "tuple" = some false := by decide +kernel
  have e7 : kitB "dict" "tuple" = some false := by decide +kernel
  cases p <;> simp [isiP, tyN, e1, e2, e3, e4, e5, e6, e7, isT]
theorem isi_list : isiP "list" p = .ok (.bl (isL p)) := by
  have e1 : kitB "NoneType" "list" = some false := by decide +kernel
  have e2 : kitB "bool" "list" = some false := by decide +kernel
  have e3 : kitB "int" "list" = some false := by decide +kernel
  have e4 : kitB "str" "list" = some false := by decide +kernel
  have e5 : kitB "tuple" "list" = some false := by decide +kernel
  have e6 : kitB "list" "list" = some true := by decide +kernel
  have e7 : kitB "dict" "list" = some false := by decide +kernel
  cases p <;> simp [isiP, tyN, e1, e2, e3, e4, e5, e6, e7, isL]
def isB : PV → Bool
  | .bl _ => true
  | _ => false
theorem isi_bool : isiP "bool" p = .ok (.bl (isB p)) := by
  have e1 : kitB "NoneType" "bool" = some false := by decide +kernel
  have e2 : kitB "bool" "bool" = some true := by decide +kernel
  have e3 : kitB "int" "bool" = some false := by decide +kernel
  have e4 : kitB "str" "bool" = some false := by decide +kernel
  have e5 : kitB "tuple" "bool" = some false := by decide +kernel
  have e6 : kitB "list" "bool" = some false := by decide +kernel
  have e7 : kitB "dict" "bool" = some false := by decide +kernel
  cases p <;> simp [isiP, tyN, e1, e2, e3, e4, e5, e6, e7, isB]
/-- whole numbers -/
def isW : PV → Bool
  | .int _ => true
  | _ => false
/-- the body of is_whole, of the laws' own -/
@[simp] theorem isW_int (a : Int) : isW (.int a) = true := rfl
theorem whole_eq : (isiP "int" p).bind (fun x => (asB x).bind fun b => if b = true then (isiP "bool" p).bind notP else .ok (.bl false)) = .ok (.bl (isW p)) := by
  rw [isi_bool]
  cases p <;> simp [isW, isB]
/-- statements -/
@[simp] theorem then_next {k : Rho → Out} : (Out.next ρ).then k = k ρ := nr rfl
@[simp] theorem then_ret {k : Rho → Out} : (Out.ret p).then k = .ret p := nr rfl
@[simp] theorem then_exc {k : Rho → Out} {z : Str} : (Out.exc z ρ).then k = .exc z ρ := nr rfl
@[simp] theorem then_stuck {k : Rho → Out} : Out.stuck.then k = .stuck := nr rfl
@[simp] theorem then_brk {k : Rho → Out} : (Out.brk ρ).then k = .brk ρ := nr rfl
@[simp] theorem then_cont {k : Rho → Out} : (Out.cont ρ).then k = .cont ρ := nr rfl
@[simp] theorem bNil_eq : bNil ρ = .next ρ := nr rfl
@[simp] theorem bSeq_eq {u v : Rho → Out} : bSeq u v ρ = (u ρ).then v := nr rfl
/-- an expression's end within a statement -/
def R.st (r : R PV) (ρ : Rho) (k : PV → Out) : Out := match r with
  | .ok p => k p
  | .exc c => .exc c ρ
  | .stuck => .stuck
@[simp] theorem st_ok {k : PV → Out} : (R.ok p).st ρ k = k p := nr rfl
@[simp] theorem st_exc {k : PV → Out} {z : Str} : (R.exc z).st ρ k = .exc z ρ := nr rfl
@[simp] theorem st_stuck {k : PV → Out} : (R.stuck : R PV).st ρ k = .stuck := nr rfl
@[simp] theorem sE_eq {k : PV → Rho → Out} : sE f k ρ = (f ρ).st ρ fun p => k p ρ := nr rfl
@[simp] theorem sSet_eq : sSet i f ρ = (f ρ).st ρ fun p => .next (ρ.set i (.val p)) := nr rfl
@[simp] theorem sRet_eq : sRet f ρ = (f ρ).st ρ fun p => .ret p := nr rfl
@[simp] theorem sDrop_eq : sDrop f ρ = (f ρ).st ρ fun _ => .next ρ := nr rfl
@[simp] theorem sRaise_eq {z : Str} : sRaise z ρ = .exc z ρ := nr rfl
@[simp] theorem sPass_eq : sPass ρ = .next ρ := nr rfl
@[simp] theorem sTo_eq {w : PV → Rho → Option Rho} : sTo w f ρ = (f ρ).st ρ fun p => match w p ρ with | some ρ' => .next ρ' | none => .stuck := nr rfl
def R.stB (r : R Bool) (ρ : Rho) (k : Bool → Out) : Out := match r with
  | .ok p => k p
  | .exc c => .exc c ρ
  | .stuck => .stuck
@[simp] theorem stB_ok {k : Bool → Out} {b : Bool} : (R.ok b).stB ρ k = k b := nr rfl
@[simp] theorem stB_exc {k : Bool → Out} {z : Str} : (R.exc z).stB ρ k = .exc z ρ := nr rfl
@[simp] theorem stB_stuck {k : Bool → Out} : (R.stuck : R Bool).stB ρ k = .stuck := nr rfl
@[simp] theorem sIf_eq {u : Rho → R Bool} {v w : Rho → Out} : sIf u v w ρ = (u ρ).stB ρ fun b => if b = true then v ρ else w ρ := by
  unfold sIf R.stB
  cases u ρ with
  | ok b => cases b <;> simp
  | exc c => rfl
  | stuck => rfl
def Out.res (o : Out) : R PV := match o with
  | .ret p => .ok p
  | .next _ => .ok .non
  | .exc c _ => .exc c
  | _ => .stuck
@[simp] theorem res_ret : (Out.ret p).res = .ok p := nr rfl
@[simp] theorem res_next : (Out.next ρ).res = .ok .non := nr rfl
@[simp] theorem res_exc {z : Str} : (Out.exc z ρ).res = .exc z := nr rfl
theorem runF_eq {n : Nat} {u : Rho → Out} : runF n u ps = (u (ps.map Slot.val ++ List.replicate (n - ps.length) Slot.un)).res := rfl
@[simp] theorem gN_eq : gN i p ρ = some (ρ.set i (.val p)) := nr rfl
@[simp] theorem gT_eql {w : List PV → Rho → Option Rho} : gT w (.lst ps) ρ = w ps ρ := nr rfl
@[simp] theorem gT_eq {w : List PV → Rho → Option Rho} : gT w (.tup ps) ρ = w ps ρ := nr rfl
@[simp] theorem gsNil_eq : gsNil [] ρ = some ρ := nr rfl
@[simp] theorem gsCons_eq {u : PV → Rho → Option Rho} {w : List PV → Rho → Option Rho} : gsCons u w (p :: ps) ρ = (u p ρ).bind (w ps) := nr rfl
@[simp] theorem sAug0 {w : PV → PV → R PV} : sAug i w f ρ = (match ρ[i]? with
  | some (.val x) => ((f ρ).bind fun y => w x y).st ρ fun z => .next (ρ.set i (.val z))
  | _ => .stuck) := nr rfl
@[simp] theorem lenP_l : lenP [.lst ps] = .ok (.int ps.length) := nr rfl
@[simp] theorem lenP_t : lenP [.tup ps] = .ok (.int ps.length) := nr rfl
@[simp] theorem lenP_f : lenP [.frz ps] = .ok (.int ps.length) := nr rfl
theorem size_ok {n : Nat} (h : n ≤ 1000000) : n ≤ sizeLine := by rw [sizeLine_eq]; omega
theorem lstP_ok (h : ps.length ≤ 1000000) : lstP ps = .ok (.lst ps) := by unfold lstP; rw [if_pos (size_ok h)]
theorem tupP_ok (h : ps.length ≤ 1000000) : tupP ps = .ok (.tup ps) := by unfold tupP; rw [if_pos (size_ok h)]
@[simp] theorem lstP0 : lstP [] = .ok (.lst []) := lstP_ok (by simp)
@[simp] theorem tupP0 : tupP [] = .ok (.tup []) := tupP_ok (by simp)
@[simp] theorem tupP1 : tupP [p] = .ok (.tup [p]) := tupP_ok (by simp)
@[simp] theorem tupP2 : tupP [p, q] = .ok (.tup [p, q]) := tupP_ok (by simp)
@[simp] theorem tupP3 : tupP [p, q, x] = .ok (.tup [p, q, x]) := tupP_ok (by simp)
@[simp] theorem lstP1 : lstP [p] = .ok (.lst [p]) := lstP_ok (by simp)
@[simp] theorem lstP2 : lstP [p, q] = .ok (.lst [p, q]) := lstP_ok (by simp)
@[simp] theorem lstP3 : lstP [p, q, x] = .ok (.lst [p, q, x]) := lstP_ok (by simp)
@[simp] theorem lstP4 : lstP [p, q, x, y] = .ok (.lst [p, q, x, y]) := lstP_ok (by simp)
/-- places -/
theorem atI_at {α : Type} {l : List α} (h0 : 0 ≤ a) : atI l a = l[a.toNat]? := by
  unfold atI ixN
  rw [if_pos h0]
  by_cases h : a < l.length
  · rw [if_pos h]; rfl
  · rw [if_neg h, List.getElem?_eq_none (by omega)]; rfl
theorem ixP_lst (h0 : 0 ≤ a) (h : ps[a.toNat]? = some p) : ixP (.lst ps) (.int a) = .ok p := by unfold ixP; dsimp only; rw [atI_at h0, h]
theorem ixP_tup (h0 : 0 ≤ a) (h : ps[a.toNat]? = some p) : ixP (.tup ps) (.int a) = .ok p := by unfold ixP; dsimp only; rw [atI_at h0, h]
theorem ixP_frz (h0 : 0 ≤ a) (h : ps[a.toNat]? = some p) : ixP (.frz ps) (.int a) = .ok p := by unfold ixP; dsimp only; rw [atI_at h0, h]
@[simp] theorem ixP_t0 : ixP (.tup (p :: ps)) (.int 0) = .ok p := ixP_tup (by omega) rfl
@[simp] theorem ixP_t1 : ixP (.tup (p :: q :: ps)) (.int 1) = .ok q := ixP_tup (by omega) rfl
@[simp] theorem ixP_t2 : ixP (.tup (p :: q :: x :: ps)) (.int 2) = .ok x := ixP_tup (by omega) rfl
@[simp] theorem ixP_l0 : ixP (.lst (p :: ps)) (.int 0) = .ok p := ixP_lst (by omega) rfl
@[simp] theorem ixP_l1 : ixP (.lst (p :: q :: ps)) (.int 1) = .ok q := ixP_lst (by omega) rfl
@[simp] theorem ixP_l2 : ixP (.lst (p :: q :: x :: ps)) (.int 2) = .ok x := ixP_lst (by omega) rfl
end
/-- one turn -/
def turnL (tgt : PV → Rho → Option Rho) (body : Rho → Out) (p : PV) (ρ : Rho) : Out := match tgt p ρ with
  | none => .stuck
  | some ρ1 => body ρ1
theorem forL_inv {tgt : PV → Rho → Option Rho} {body : Rho → Out} (I : Nat → Rho → Prop) : ∀ (items : List PV) (k : Nat) (ρ : Rho), I k ρ →
    (∀ j p ρ, items[j]? = some p → I (k + j) ρ → ∃ ρ', (turnL tgt body p ρ = .next ρ' ∨ turnL tgt body p ρ = .cont ρ') ∧ I (k + j + 1) ρ') → ∃ ρ', forL tgt body items ρ = .next ρ' ∧ I (k + items.length) ρ' := by
  intro items
  induction items with
  | nil => intro k ρ h _; exact ⟨ρ, rfl, h⟩
  | cons p ps ih =>
    intro k ρ h hs
    obtain ⟨ρ1, h1, h2⟩ := hs 0 p ρ rfl h
    obtain ⟨ρ2, h3, h4⟩ := ih (k + 1) ρ1 h2 fun j q ρ' hj hI => by
      have := hs (j + 1) q ρ' (by simpa using hj) (by rw [show k + (j + 1) = k + 1 + j by omega]; exact hI)
      rw [show k + 1 + j + 1 = k + (j + 1) + 1 by omega]
      exact this
    refine ⟨ρ2, ?_, by rw [List.length_cons, show k + (ps.length + 1) = k + 1 + ps.length by omega]; exact h4⟩
    unfold turnL at h1
    unfold forL
    revert h1
    cases tgt p ρ with
    | none => exact fun h1 => by rcases h1 with h1 | h1 <;> cases h1
    | some ρ1' =>
      dsimp only
      intro h1
      rcases h1 with h1 | h1 <;> (rw [h1]; exact h3)
/-- over a range -/
theorem forL_rng {tgt : PV → Rho → Option Rho} {body : Rho → Out} (I : Nat → Rho → Prop) (lo : Int) (n : Nat) (ρ : Rho) (h0 : I 0 ρ)
    (hs : ∀ (j : Nat) ρ, j < n → I j ρ → ∃ ρ', (turnL tgt body (.int (lo + j)) ρ = .next ρ' ∨ turnL tgt body (.int (lo + j)) ρ = .cont ρ') ∧ I (j + 1) ρ') : ∃ ρ', forL tgt body (rngL lo n) ρ = .next ρ' ∧ I n ρ' := by
  obtain ⟨ρ', h1, h2⟩ := forL_inv I (rngL lo n) 0 ρ h0 fun j p ρ hj hI => by
    unfold rngL at hj
    rw [List.getElem?_map] at hj
    cases hn : (List.range n)[j]? with
    | none => rw [hn] at hj; cases hj
    | some m =>
      rw [hn] at hj
      obtain ⟨g1, g2⟩ := List.getElem?_eq_some_iff.mp hn
      rw [List.getElem_range] at g2
      subst g2
      cases hj
      rw [List.length_range] at g1
      rw [Nat.zero_add] at hI ⊢
      exact hs j ρ g1 hI
  rw [rngL_len, Nat.zero_add] at h2
  exact ⟨ρ', h1, h2⟩
def R.stL (r : R (List PV)) (ρ : Rho) (k : List PV → Out) : Out := match r with
  | .ok p => k p
  | .exc c => .exc c ρ
  | .stuck => .stuck
@[simp] theorem stL_ok {k : List PV → Out} {l : List PV} {ρ : Rho} : (R.ok l).stL ρ k = k l := nr rfl
@[simp] theorem sFor_eq {it : Rho → R (List PV)} {tgt : PV → Rho → Option Rho} {body : Rho → Out} {ρ : Rho} : sFor it tgt body ρ = (it ρ).stL ρ fun items => forL tgt body items ρ := nr rfl
@[simp] theorem iR_eq {g : List PV → R (List PV)} {f : Rho → R (List PV)} {ρ : Rho} : iR g f ρ = (f ρ).bind g := nr rfl
@[simp] theorem iS_eq {f : Rho → R PV} {ρ : Rho} : iS f ρ = (f ρ).bind asS := nr rfl
@[simp] theorem iRv_eq {f : Rho → R PV} {ρ : Rho} : iRv f ρ = (f ρ).bind fun p => (asS p).bind fun l => .ok l.reverse := nr rfl
@[simp] theorem asS_l {l : List PV} : asS (.lst l) = .ok l := nr rfl
@[simp] theorem asS_t {l : List PV} : asS (.tup l) = .ok l := nr rfl
@[simp] theorem asS_f {l : List PV} : asS (.frz l) = .ok l := nr rfl
theorem inR_of {a : Int} (h1 : -1000000000000 ≤ a) (h2 : a ≤ 1000000000000) : inR a = true := inR_iff.mpr ⟨by omega, by omega⟩
theorem rng1_sm {a : Int} (h1 : -1000000000000 ≤ a) (h2 : a ≤ 1000000000000) : rng1 [.int a] = .ok (rngL 0 a.toNat) := by
  unfold rng1; dsimp only; rw [if_pos (inR_of h1 h2)]
theorem rng2_all {a b : Int} : rng2 [.int a, .int b] = .ok (rngL a (b - a).toNat) := nr rfl
theorem lcGo_map {tgt : PV → Rho → Option Rho} {elt : Rho → R PV} {ρ : Rho} (φ : PV → PV) : ∀ (items : List PV), (∀ p ∈ items, ∃ ρ', tgt p ρ = some ρ' ∧ elt ρ' = .ok (φ p)) → lcGo tgt cYes elt ρ items = .ok (items.map φ)
  | [], _ => rfl
  | p :: ps, h => by
    obtain ⟨ρ', h1, h2⟩ := h p List.mem_cons_self
    have ih := lcGo_map φ ps fun q hq => h q (List.mem_cons_of_mem _ hq)
    unfold lcGo
    rw [h1]
    dsimp only [cYes]
    rw [h2]
    dsimp only
    rw [ih]
    rfl
theorem eLc_ok {vs : List Nat} {it : Rho → R (List PV)} {tgt : PV → Rho → Option Rho} {test : Rho → R Bool} {elt : Rho → R PV} {ρ : Rho} {items qs : List PV} (h1 : vs.all (notOwn ρ) = true) (h2 : it ρ = .ok items) (h3 : items.length ≤ 1000000) (h4 : lcGo tgt test elt (wipeR ρ vs) items = .ok qs) : eLc vs it tgt test elt ρ = .ok (.lst qs) := by
  unfold eLc
  rw [if_pos h1, h2, bind1, if_pos (size_ok h3), h4]
end PL
namespace PL
open PySem PySem.Spec L2
open PyProof.Rows hiding St
section
variable {a b : Int} {p : PV} {ps : List PV}
theorem fdivP_sm (h : 0 < b) (h2 : b ≤ 1000000000000000000000000000000000000000000000000000000000000) : fdivP (.int a) (.int b) = .ok (.int (a / b)) := fdivP_ii (by omega) (by omega) |>.trans (by rw [Int.fdiv_eq_ediv_of_nonneg a (by omega)])
theorem mulP_sm (h : -1000000000000000000000000000000000000000000000000000000000000 ≤ a) (h2 : a ≤ 1000000000000000000000000000000000000000000000000000000000000) (h3 : -1000000000000000000000000000000000000000000000000000000000000 ≤ b) (h4 : b ≤ 1000000000000000000000000000000000000000000000000000000000000) : mulP (.int a) (.int b) = .ok (.int (a * b)) :=
  mulP_ii (okMul_of (m := 250) (n := 250) (by omega) (by omega) (by omega) (by omega) (by omega))
theorem powP_sm (h0 : 0 ≤ b) (h1 : b ≤ 1000000) (h2 : -1000000 ≤ a) (h3 : a ≤ 1000000) : powP (.int a) (.int b) = .ok (.int (a ^ b.toNat)) := powP_ii h0 h1 (by omega)
/-- the item at a place, 0 beyond -/
def nth (l : List Int) (a : Int) : Int := l.getD a.toNat 0
theorem getD_map (ns : List Int) (k : Nat) (h : k < ns.length) : (ns.map PV.int)[k]? = some (.int (ns.getD k 0)) := by
  rw [List.getElem?_map, List.getElem?_eq_getElem h, List.getD_eq_getElem?_getD, List.getElem?_eq_getElem h]
  rfl
theorem ixP_intsF {ns : List Int} (h0 : 0 ≤ a) (h : a < ns.length) : ixP (.frz (ns.map PV.int)) (.int a) = .ok (.int (nth ns a)) := ixP_frz h0 (getD_map ns _ (by omega))
end
end PL
namespace PL
open PySem PySem.Spec L2
open PyProof.Rows hiding St
theorem ixP_ex {a : Int} {ps : List PV} (h0 : 0 ≤ a) (h : a < ps.length) : ∃ p, p ∈ ps ∧ ixP (.lst ps) (.int a) = .ok p :=
  ⟨_, List.getElem_mem (by omega : a.toNat < ps.length), ixP_lst h0 (List.getElem?_eq_getElem (by omega))⟩
end PL
namespace PL
open PySem PySem.Spec L2
open PyProof.Rows hiding St
theorem pow_bound {a : Int} {m : Nat} (h : a.natAbs < 2 ^ m) : ∀ n : Nat, (a ^ n).natAbs < 2 ^ (m * n + 1)
  | 0 => by simp
  | n + 1 => by
    have ih := pow_bound h n
    rw [Int.pow_succ, Int.natAbs_mul, Nat.mul_succ, show m * n + m + 1 = (m * n + 1) + m by omega, Nat.pow_add]
    exact Nat.mul_lt_mul'' ih h
theorem mul_bound {a b : Int} {m n : Nat} (h : a.natAbs < 2 ^ m) (g : b.natAbs < 2 ^ n) : (a * b).natAbs < 2 ^ (m + n) := by
  rw [Int.natAbs_mul, Nat.pow_add]
  exact Nat.mul_lt_mul'' h g
end PL
set_option Elab.async false
set_option linter.all false
set_option maxRecDepth 100000
set_option autoImplicit false
namespace PL
open PySem PySem.Spec L2
open PyProof.Rows hiding St
def repL : PV → PV → R PV
  | .lst a, .int k => if (decide (-1000000 ≤ k) && (decide (k ≤ 1000000) && decide (a.length * k.toNat ≤ sizeLine))) = true then .ok (.lst (List.replicate k.toNat a).flatten) else .stuck
  | _, _ => .stuck
theorem repL_exc (p q : PV) (c : Str) : repL p q ≠ .exc c := by
  unfold repL; split <;> (try split) <;> exact fun z => nomatch z
theorem s_repL (K : PySem.W.Frag) : OpS K rRep .t .t .f repL := by
  intro H0 O0 σ ρ H H2 x y p q Q S s rx ry G
  unfold repL at G
  split at G
  · rename_i a k
    split at G
    · rename_i hz
      rw [Bool.and_eq_true, Bool.and_eq_true, decide_eq_true_eq, decide_eq_true_eq, decide_eq_true_eq] at hz
      obtain ⟨c, vs, rfl, h1, r1⟩ := rt_lst rx
      rw [rt_int ry]
      have rr : ∀ n : Nat, Reps K H2 (OO O0 σ ρ) (List.replicate n vs).flatten (List.replicate n a).flatten := fun n => by
        induction n with
        | zero => exact .nil
        | succ n ih => rw [List.replicate_succ, List.replicate_succ, List.flatten_cons, List.flatten_cons]; exact r1.append ih
      exact ⟨c, _, vs, rfl, rfl, h1, by omega, by omega, by rw [r1.length]; exact hz.2.2, fun l hl => G _ _ (same_new hl) (new_lst (H0 := H0) s (rr _) hl)⟩
    · exact G.elim
  · exact G.elim
section
variable {X : Cx} {W : WX} {a b : Expr} {pos : Pos} {f g : Rho → R PV}
theorem e_repL (ha : EJ X W .t a f) (hb : EJ X W .t b g) : EJ X W .f (.BinOp a .Mult b pos) (e2 repL f g) := e_op op_rep repL_exc (s_repL _) ha hb
end
theorem repL_ok {a : List PV} {k : Int} (h0 : 0 ≤ k) (h1 : k ≤ 1000) (h : a.length ≤ 1000) : repL (.lst a) (.int k) = .ok (.lst (List.replicate k.toNat a).flatten) := by
  have hz : a.length * k.toNat ≤ 1000 * 1000 := Nat.mul_le_mul h (by omega)
  have hs : 1000 * 1000 ≤ sizeLine := by decide
  show (if _ then _ else _) = _
  rw [if_pos (by rw [Bool.and_eq_true, Bool.and_eq_true, decide_eq_true_eq, decide_eq_true_eq, decide_eq_true_eq]; exact ⟨by omega, by omega, by omega⟩)]
end PL
set_option Elab.async false
set_option linter.all false
set_option maxRecDepth 100000
set_option autoImplicit false
namespace PL
open PySem PySem.Spec L2
open PyProof.Rows hiding St
def sMut0 (i : Nat) (g : List PV → R (List PV)) : Rho → Out := fun ρ => match ρ[i]? with
  | some (.own ps) => (match g ps with
    | .ok qs => .next (ρ.set i (.own qs))
    | _ => .stuck)
  | _ => .stuck
def clearP : List PV → R (List PV) := fun _ => .ok []
def getN (ps : List PV) : PV → Option PV
  | .int k => if 0 ≤ k ∧ k < 1000000 then ps[k.toNat]? else none
  | _ => none
def augN (ps : List PV) : PV → PV → PV → R (List PV)
  | .int k, .int a, .int b => match ixN ps.length k with
    | some j => .ok (ps.set j (.int (a + b)))
    | none => .stuck
  | _, _, _ => .stuck
theorem augN_ok {ps qs : List PV} {k : Int} {x y : PV} (h : augN ps (.int k) x y = .ok qs) : ∃ (a b : Int) (j : Nat), x = .int a ∧ y = .int b ∧ ixN ps.length k = some j ∧ qs = ps.set j (.int (a + b)) := by
  cases x with
  | int a => cases y with
    | int b =>
      unfold augN at h; dsimp only at h
      cases e : ixN ps.length k with
      | none => rw [e] at h; cases h
      | some j => rw [e] at h; cases h; exact ⟨a, b, j, rfl, rfl, rfl, rfl⟩
    | _ => cases h
  | _ => cases h
def sAugI (i : Nat) (fi f : Rho → R PV) : Rho → Out := fun ρ => match ρ[i]? with
  | some (.own ps) => sE fi (fun q ρ => match getN ps q with
    | some x => sE f (fun y ρ => match augN ps q x y with
      | .ok qs => .next (ρ.set i (.own qs))
      | _ => .stuck) ρ
    | none => .stuck) ρ
  | _ => .stuck
def rGetN (K : PySem.W.Frag) : V → V → Hp → VK → Prop := fun o i H Q => ∃ p xs k v, o = .ref p ∧ i = .int k ∧ SqL K H p xs ∧ 0 ≤ k ∧ k < 1000000 ∧ xs[k.toNat]? = some v ∧ Q v H
theorem get_listN {X : Cx} : PGet X (rGetN X.K) := by
  rintro pins u σ H o i ov iv Q inv ro ri ⟨p, xs, k, v, rfl, rfl, hq, k0, k1, hv, q⟩
  cases ro
  obtain ⟨t, rfl⟩ := ri
  obtain ⟨its, r, pl, hz⟩ := inv.list hq
  obtain ⟨w, ew, rw'⟩ := r.get hv
  exact wpAny_getItem_list pl.isList k0 (by omega) (by simpa using ew) ⟨v, H, inv, rw', q⟩
section
variable {X : Cx} {W : WX} {nw : Bool} {o ix e : Expr} {apos pos p2 : Pos} {i : Nat} {f fi : Rho → R PV}
theorem s_augI (ho : PE X o (tVar i)) (hi : EJ X W .s ix fi) (he : EJ X W .s e f)
    (ha : ∀ ov iv new, augStore ix ov iv new = (do holding [new, ov, iv] (setItem ov iv new); release [new, ov, iv] []; pure .next) := by intros; rfl) : SJ X W nw (.AugAssign (.Subscript o ix p2) .Add e pos) (sAugI i fi f) := by
  refine ps_imp (ps_augS ho hi get_listN he ip_add set_list ha) fun D σ H ⟨H0, O0, ρ, S, G⟩ => ?_
  unfold sAugI at G
  split at G
  · rename_i ps hp
    obtain ⟨a0, vs0, e1, _⟩ := S.own i ps hp
    refine ⟨.ref a0, e1, H0, O0, ρ, S, got_e S G fun q v H1 s1 r1 G => ?_⟩
    have S1 := S.step s1
    obtain ⟨a, vs, e1', e2, e3, e4, e5⟩ := S1.own i ps hp
    rw [e1] at e1'
    cases e1'
    split at G
    · rename_i x hx
      unfold getN at hx
      split at hx
      · split at hx
        · rename_i k hk
          cases (show Rep X.K H1 (OO O0 σ ρ) v (.int _) from r1)
          obtain ⟨y, hy, ry⟩ := e5.get hx
          refine ⟨a0, vs, _, y, rfl, rfl, .inl (.inl e2), hk.1, hk.2, hy, H0, O0, ρ, S1, got_e S1 (GotS.later (Kept.same s1) G) fun z w H2 s2 r2 G => ?_⟩
          split at G
          · rename_i qs hq
            obtain ⟨m, n, j, rfl, rfl, hj, rfl⟩ := augN_ok hq
            cases ry
            cases (show Rep X.K H2 (OO O0 σ ρ) w (.int n) from r2)
            exact ⟨_, _, rfl, rfl, a0, vs, _, j, rfl, rfl, s2 _ _ e2, by rw [e5.length]; exact hj, G _ _ ((S1.step s2).write hp e1 ((e5.same s2).set (.int _) j)) ((Kept.same s2).trans (kept_write hp e1))⟩
          · exact G.elim
        · cases hx
      · cases hx
    · exact G.elim
  · exact G.elim
end
end PL
set_option Elab.async false
set_option linter.all false
set_option maxRecDepth 100000
set_option autoImplicit false
namespace PL
open PySem PySem.Spec L2
open PyProof.Rows hiding St
mutual
def noL : PV → Bool
  | .lst _ => false
  | .tup l => noLs l
  | _ => true
def noLs : List PV → Bool
  | [] => true
  | p :: l => noL p && noLs l
end
section
variable {K : PySem.W.Frag} {H : Hp} {O O' : Addr → Prop}
mutual
theorem Rep.lent (hO : ∀ b, O' b → O b ∨ ∃ xs, H b = some (.lst xs)) : ∀ {v : V} {p : PV}, noL p = true → Rep K H O v p → Rep K H O' v p
  | _, _, _, .non => .non
  | _, _, _, .bl b => .bl b
  | _, _, _, .int i => .int i
  | _, _, _, .str x => .str x
  | _, _, n, .lst _ _ _ => by rw [noL] at n; cases n
  | _, _, n, .tup (.inl ⟨h, m⟩) r => .tup (.inl ⟨h, fun z => by
      rcases hO _ z with z | ⟨xs, z⟩
      · exact m z
      · rw [h] at z; cases z⟩) (Reps.lent hO (by rw [noL] at n; exact n) r)
  | _, _, n, .tup (.inr h) r => .tup (.inr h) (Reps.lent hO (by rw [noL] at n; exact n) r)
  | _, _, _, .frz (.inl ⟨⟨o, h⟩, m⟩) => .frz (.inl ⟨⟨o, h⟩, fun z => by
      rcases hO _ z with z | ⟨xs, z⟩
      · exact m z
      · rw [h] at z; cases z⟩)
  | _, _, _, .frz (.inr h) => .frz (.inr h)
  | _, _, _, .dct h m => .dct h fun z => by
      rcases hO _ z with z | ⟨xs, z⟩
      · exact m z
      · rw [h] at z; cases z
theorem Reps.lent (hO : ∀ b, O' b → O b ∨ ∃ xs, H b = some (.lst xs)) : ∀ {v : List V} {p : List PV}, noLs p = true → Reps K H O v p → Reps K H O' v p
  | _, _, _, .nil => .nil
  | _, _, n, .cons h r => by
    rw [noLs, Bool.and_eq_true] at n
    exact .cons (Rep.lent hO n.1 h) (Reps.lent hO n.2 r)
end
end
def lentOk : Bool → PV → Bool
  | false, p => noL p
  | true, .lst l => noLs l
  | true, _ => false
def lendF (nw : Bool) (F : List PV → R PV) : List PV → R PV := fun ps => match F ps with
  | .ok p => if lentOk nw p = true then .ok p else .stuck
  | .exc c => .exc c
  | .stuck => .stuck
section
variable {X : Cx} {W : WX} {e : Expr} {es : List Expr} {pos p : Pos} {fA : Rho → R (List PV)}
theorem e_lend {x : Str} {k j n : Nat} {nw : Bool} {F : List PV → R PV} {pn : List Str} (h : Okd X.prog X.w X.K X.mg X.base x pn j n nw F) (hr : Room k X.A) (hjk : j ≤ k) (tk : L2N.Takes X W) (hg : Gl X x) (ha : AJ X W .w (e :: es) fA) (hal : ALen fA n) (hlen : n = es.length + 1 := by rfl) (hdb : (x == ("__debug__" : Str)) = false := by decide)
    (he : starEach (e :: es) X.env = (false, eval e X.env) :: starEach es X.env := by rfl) (hpl : (backTo pos (starEach es X.env)).any (·.1) = false := by rfl) : EJ X W (mdR nw) (.Call (.Name x p) (e :: es) [] pos) (eD (lendF nw F) fA) := by
  obtain ⟨f, fd, h1, h2, h3, h4⟩ := h
  refine pe_imp (pe_callSD (E := fun σ cls d H => W cls d σ H) h4 (hr.mono hjk) hg h1 h2 h3 .nil (fun σ => L2N.passAt tk σ) ha hdb he hpl) fun σ H Q ⟨H0, O0, ρ, S, G⟩ => ⟨H0, O0, ρ, S, ?_⟩
  revert G
  unfold eD
  cases hA : fA ρ with
  | stuck => exact False.elim
  | exc c => exact id
  | ok ps =>
    intro G vs H1 s1 r1
    have rr := reps_ofW r1
    refine ⟨ps, O0, fun a z => (S.step s1).all0 a z, by rw [List.append_nil]; exact rr, ?_, ?_⟩
    · rw [List.append_nil, rr.length, hal.ok ρ ps hA]
    · revert G
      rw [R.bind_ok]
      unfold lendF
      cases F ps with
      | stuck => exact id
      | exc c => exact fun G C H' s' e => G C H' (s1.trans s') e
      | ok p =>
        dsimp only
        split
        · rename_i hl
          intro G v H' s' r'
          have S' := S.step (s1.trans s')
          have hO : ∀ b, OO O0 σ ρ b → O0 b ∨ ∃ xs, H' b = some (.lst xs) := fun b z => by
            rcases z with z | ⟨i, qs, q1, q2⟩
            · exact .inl z
            · obtain ⟨a, vs, e1, e2, _⟩ := S'.own i qs q1
              rw [q2] at e1; cases e1
              exact .inr ⟨vs, e2⟩
          refine G v H' (s1.trans s') ?_
          cases nw with
          | false => exact Rep.lent hO hl r'
          | true =>
            obtain ⟨a, vs', ps', q1, q2, q3, q4, q5⟩ := r'
            subst q2
            refine ⟨a, vs', ps', q1, rfl, s1.free q3, q4, Reps.lent (fun b z => ?_) hl q5⟩
            rcases z with z | z
            · rcases hO b z with z | z
              · exact .inl (.inl z)
              · exact .inr z
            · exact .inl (.inr z)
        · exact False.elim
end
theorem lendF_ok {nw : Bool} {F : List PV → R PV} {ps : List PV} {p : PV} (h : F ps = .ok p) (hl : lentOk nw p = true) : lendF nw F ps = .ok p := by
  unfold lendF; rw [h]; exact if_pos hl
def isBP : PV → PV → R PV
  | .bl a, .bl b => .ok (.bl (decide (a = b)))
  | _, _ => .stuck
def notBP : PV → PV → R PV
  | .bl a, .bl b => .ok (.bl (!decide (a = b)))
  | _, _ => .stuck
theorem notBP_exc (p q : PV) (c : Str) : notBP p q ≠ .exc c := by unfold notBP; split <;> exact fun z => nomatch z
theorem rt_blz {K : PySem.W.Frag} {H H2 : Hp} {O0 : Addr → Prop} {σ : St} {ρ : Rho} {x : V} {b : Bool} (r : RepM K O0 σ ρ .t H H2 x (.bl b)) : x = .bl b := by
  rcases r with r | ⟨a, vs, ps, _, e, _⟩
  · cases r; rfl
  · cases e
theorem s_notB (K : PySem.W.Frag) : OpS K (fun x y H Q => ∃ a b, x = .bl a ∧ y = .bl b ∧ Q (.bl (!decide (a = b))) H) .t .t .s notBP := by
  intro H0 O0 σ ρ H H2 x y p q Q S s rx ry G
  unfold notBP at G
  split at G
  · rw [rt_blz rx, rt_blz ry]; exact ⟨_, _, rfl, rfl, G _ _ (Same.refl _) (.bl _)⟩
  · exact G.elim
section
variable {X : Cx} {W : WX} {a b : Expr} {pos : Pos} {f g : Rho → R PV}
theorem t_notB (ha : EJ X W .t a f) (hb : EJ X W .t b g) : TJ X W (.Compare a [.IsNot] [b] pos) (tB1 (e2 notBP f g)) := t_cmp op_isnot_bl notBP_exc (s_notB _) ha hb (nomark _)
end
@[simp] theorem isBP_bb (a b : Bool) : isBP (.bl a) (.bl b) = .ok (.bl (decide (a = b))) := rfl
@[simp] theorem notBP_bb (a b : Bool) : notBP (.bl a) (.bl b) = .ok (.bl (!decide (a = b))) := rfl
end PL
set_option Elab.async false
set_option linter.all false
set_option maxRecDepth 100000
set_option autoImplicit false
namespace PM
open PySem PySem.Spec L2 PL
open PyProof.Rows hiding St
noncomputable def D_is_whole : Rho → Out := (bSeq (sRet (eAn (e1 (isiP "int") (eVo 0)) (e1 notP (e1 (isiP "bool") (eVo 0))))) bNil)
noncomputable def F_is_whole : List PV → R PV := runF 1 D_is_whole
noncomputable def D_divisor : Rho → Out := (bSeq (sSet 0 (eD absP (aCons (eVo 0) aNil))) (bSeq (sSet 1 (eD absP (aCons (eVo 1) aNil))) (bSeq (sWh (tB1 (e2 gtP (eVo 1) (eC (.int 0)))) (bSeq (sPar 0 1 (aCons (eV 1) (aCons (e2 modP (eVo 0) (eVo 1)) aNil))) bNil)) (bSeq (sRet (eV 0)) bNil))))
noncomputable def F_divisor : List PV → R PV := runF 2 D_divisor
noncomputable def D_fraction : Rho → Out := (bSeq (sIf (tOr' (tNt (tB1 (eD F_is_whole (aCons (eV 0) aNil)))) (tOr' (tNt (tB1 (eD F_is_whole (aCons (eV 1) aNil)))) (tB1 (e2 eqP (eVo 1) (eC (.int 0)))))) (bSeq (sRaise "NoFraction") bNil) bNil) (bSeq (sSet 2 (eD F_divisor (aCons (eV 0) (aCons (eV 1) aNil)))) (bSeq (sIf (tB1 (e2 ltP (eVo 1) (eC (.int 0)))) (bSeq (sSet 2 (e1 negP (eVo 2))) bNil) bNil) (bSeq (sRet (eD tupP (aCons (e2 fdivP (eVo 0) (eVo 2)) (aCons (e2 fdivP (eVo 1) (eVo 2)) aNil)))) bNil))))
noncomputable def F_fraction : List PV → R PV := runF 3 D_fraction
noncomputable def D_plus_fraction : Rho → Out := (bSeq (sRet (eD F_fraction (aCons (e2 addP (e2 mulP (e2 ixP (eVo 0) (eC (.int 0))) (e2 ixP (eVo 1) (eC (.int 1)))) (e2 mulP (e2 ixP (eVo 1) (eC (.int 0))) (e2 ixP (eVo 0) (eC (.int 1))))) (aCons (e2 mulP (e2 ixP (eVo 0) (eC (.int 1))) (e2 ixP (eVo 1) (eC (.int 1)))) aNil)))) bNil)
noncomputable def F_plus_fraction : List PV → R PV := runF 2 D_plus_fraction
noncomputable def D_times_fraction : Rho → Out := (bSeq (sRet (eD F_fraction (aCons (e2 mulP (e2 ixP (eVo 0) (eC (.int 0))) (e2 ixP (eVo 1) (eC (.int 0)))) (aCons (e2 mulP (e2 ixP (eVo 0) (eC (.int 1))) (e2 ixP (eVo 1) (eC (.int 1)))) aNil)))) bNil)
noncomputable def F_times_fraction : List PV → R PV := runF 2 D_times_fraction
noncomputable def D_is_poly : Rho → Out := (bSeq (sIf (tOr' (tNt (tB1 (e1 (isiP "list") (eVo 0)))) (tOr' (tB1 (e2 ltP (eD lenP (aCons (eVo 0) aNil)) (eC (.int 2)))) (tB1 (e2 gtP (eD lenP (aCons (eVo 0) aNil)) (eC (.int 9)))))) (bSeq (sRet (eC (.bl false))) bNil) bNil) (bSeq (sRet (eAn (eD allP (aCons (eLc [1] (iS (eV 0)) (gN 1) cYes (eD F_is_whole (aCons (eV 1) aNil))) aNil)) (e2 neP (e2 ixP (eVo 0) (e1 negP (eC (.int 1)))) (eC (.int 0))))) bNil))
noncomputable def F_is_poly : List PV → R PV := runF 2 D_is_poly
noncomputable def D_want_poly : Rho → Out := (bSeq (sIf (tNt (tB1 (eD F_is_poly (aCons (eV 0) aNil)))) (bSeq (sRaise "NoPolynomial") bNil) bNil) bNil)
noncomputable def F_want_poly : List PV → R PV := runF 1 D_want_poly
noncomputable def D_worth_at : Rho → Out := (bSeq (sSet 2 (eD (fun ps => F_fraction (ps ++ [.int 1])) (aCons (eC (.int 0)) aNil))) (bSeq (sFor (iRv (eV 0)) (gN 3) (bSeq (sSet 2 (eD F_plus_fraction (aCons (eD F_times_fraction (aCons (eV 2) (aCons (eV 1) aNil))) (aCons (eD (fun ps => F_fraction (ps ++ [.int 1])) (aCons (eV 3) aNil)) aNil)))) bNil)) (bSeq (sRet (eV 2)) bNil)))
noncomputable def F_worth_at : List PV → R PV := runF 4 D_worth_at
noncomputable def D_slope_of : Rho → Out := (bSeq (sDrop (eD F_want_poly (aCons (eV 0) aNil))) (bSeq (sRet (eSl slL (eLc [1, 2] (iEn (eV 0)) (gT (gsCons (gN 1) (gsCons (gN 2) gsNil))) cYes (e2 mulP (eVo 1) (eVo 2))) (oSome (eC (.int 1))) oNone)) bNil))
noncomputable def F_slope_of : List PV → R PV := runF 3 D_slope_of
noncomputable def D_product_of : Rho → Out := (bSeq (sDrop (eD F_want_poly (aCons (eV 0) aNil))) (bSeq (sDrop (eD F_want_poly (aCons (eV 1) aNil))) (bSeq (sSetO 2 (e2 repL (eD lstP (aCons (eC (.int 0)) aNil)) (e2 subP (e2 addP (eD lenP (aCons (eVo 0) aNil)) (eD lenP (aCons (eVo 1) aNil))) (eC (.int 1))))) (bSeq (sFor (iEn (eV 0)) (gT (gsCons (gN 3) (gsCons (gN 4) gsNil))) (bSeq (sFor (iEn (eV 1)) (gT (gsCons (gN 5) (gsCons (gN 6) gsNil))) (bSeq (sAugI 2 (e2 addP (eVo 3) (eVo 5)) (e2 mulP (eVo 4) (eVo 6))) bNil)) bNil)) (bSeq (sRetO 2) bNil)))))
noncomputable def F_product_of : List PV → R PV := runF 7 D_product_of
noncomputable def D_turned : Rho → Out := (bSeq (sSet 2 (eD tupP (aCons (eV 1) (aCons (eC (.int 0)) aNil)))) (bSeq (sSet 3 (eD tupP (aCons (e2 modP (eVo 0) (eVo 1)) (aCons (eC (.int 1)) aNil)))) (bSeq (sWh (tB1 (e2 gtP (e2 ixP (eVo 3) (eC (.int 0))) (eC (.int 0)))) (bSeq (sSet 4 (e2 fdivP (e2 ixP (eVo 2) (eC (.int 0))) (e2 ixP (eVo 3) (eC (.int 0))))) (bSeq (sPar 2 3 (aCons (eV 3) (aCons (eD tupP (aCons (e2 subP (e2 ixP (eVo 2) (eC (.int 0))) (e2 mulP (eVo 4) (e2 ixP (eVo 3) (eC (.int 0))))) (aCons (e2 subP (e2 ixP (eVo 2) (eC (.int 1))) (e2 mulP (eVo 4) (e2 ixP (eVo 3) (eC (.int 1))))) aNil))) aNil))) bNil))) (bSeq (sRet (e2 modP (e2 ixP (eVo 2) (eC (.int 1))) (eVo 1))) bNil))))
noncomputable def F_turned : List PV → R PV := runF 5 D_turned
end PM
set_option Elab.async false
set_option linter.all false
set_option maxRecDepth 100000
set_option autoImplicit false
namespace PM
open PySem PySem.Spec L2 PL
open PyProof.Rows hiding St
theorem f_is_whole (p : PV) : F_is_whole [p] = .ok (.bl (isW p)) := by
  show (D_is_whole [.val p]).res = _
  simp [D_is_whole, whole_eq]
def primesL : List Int := [2, 3, 5, 7, 11, 13, 17, 19, 23, 29, 31, 37, 41, 43, 47, 53, 59, 61, 67, 71, 73, 79, 83, 89, 97]
def primesN : List Nat := [2, 3, 5, 7, 11, 13, 17, 19, 23, 29, 31, 37, 41, 43, 47, 53, 59, 61, 67, 71, 73, 79, 83, 89, 97]
theorem primesL_le : ∀ n ∈ primesL, 2 ≤ n ∧ n ≤ 97 := by decide
theorem allP_bl (bs : List Bool) : allP [.lst (bs.map PV.bl)] = .ok (.bl (bs.all id)) := by
  unfold allP
  dsimp only
  rw [asBs_of]
end PM
set_option Elab.async false
set_option linter.all false
set_option maxRecDepth 100000
set_option autoImplicit false
namespace PM
open PySem PySem.Spec L2 PL
open PyProof.Rows hiding St
def R.own (r : R (List PV)) (ρ : Rho) (i : Nat) : Out := match r with
  | .ok qs => .next (ρ.set i (.own qs))
  | _ => .stuck
@[simp] theorem own_ok {qs : List PV} {ρ : Rho} {i : Nat} : R.own (.ok qs) ρ i = .next (ρ.set i (.own qs)) := nr rfl
def getOwn (ρ : Rho) (i : Nat) : Option (List PV) := match ρ[i]? with
  | some (.own ps) => some ps
  | _ => none
@[simp] theorem getOwn0 {ps : List PV} {ρ : Rho} : getOwn (.own ps :: ρ) 0 = some ps := nr rfl
@[simp] theorem getOwnS {s : Slot} {ρ : Rho} {i : Nat} : getOwn (s :: ρ) (i + 1) = getOwn ρ i := by simp [getOwn]
def onOwn (o : Option (List PV)) (k : List PV → Out) : Out := match o with
  | some ps => k ps
  | none => .stuck
@[simp] theorem onOwn_some {ps : List PV} {k : List PV → Out} : onOwn (some ps) k = k ps := nr rfl
@[simp] theorem sMut_eq {i : Nat} {g : List PV → PV → R (List PV)} {f : Rho → R PV} {ρ : Rho} : sMut i g f ρ = onOwn (getOwn ρ i) fun ps => (f ρ).st ρ fun p => R.own (g ps p) ρ i := by
  unfold sMut getOwn
  cases ρ[i]? with
  | none => rfl
  | some t => cases t <;> rfl
def asL : PV → R (List PV)
  | .lst l => .ok l
  | _ => .stuck
@[simp] theorem asL_l {l : List PV} : asL (.lst l) = .ok l := nr rfl
@[simp] theorem sSetO_eq {i : Nat} {f : Rho → R PV} {ρ : Rho} : sSetO i f ρ = (f ρ).st ρ fun p => R.own (asL p) ρ i := by
  unfold sSetO sE R.st R.own asL
  cases f ρ with
  | ok p => cases p <;> rfl
  | exc c => rfl
  | stuck => rfl
@[simp] theorem sRetO_eq {i : Nat} {ρ : Rho} : sRetO i ρ = onOwn (getOwn ρ i) fun ps => .ret (.lst ps) := by
  unfold sRetO getOwn
  cases ρ[i]? with
  | none => rfl
  | some t => cases t <;> rfl
def frzR (ρ : Rho) (i : Nat) : Rho := match ρ[i]? with
  | some (.own ps) => ρ.set i (.val (.lst ps))
  | _ => ρ
@[simp] theorem frzR0 {ps : List PV} {ρ : Rho} : frzR (.own ps :: ρ) 0 = .val (.lst ps) :: ρ := nr rfl
@[simp] theorem frzR0v {p : PV} {ρ : Rho} : frzR (.val p :: ρ) 0 = .val p :: ρ := nr rfl
@[simp] theorem frzR0u {ρ : Rho} : frzR (.un :: ρ) 0 = .un :: ρ := nr rfl
@[simp] theorem frzRS {s : Slot} {ρ : Rho} {i : Nat} : frzR (s :: ρ) (i + 1) = s :: frzR ρ i := by
  unfold frzR
  rw [List.getElem?_cons_succ]
  cases ρ[i]? with
  | none => rfl
  | some t => cases t <;> rfl
@[simp] theorem sFrz_eq {i : Nat} {g : Rho → Out} {ρ : Rho} : sFrz i g ρ = g (frzR ρ i) := by
  unfold sFrz frzR
  cases ρ[i]? with
  | none => rfl
  | some t => cases t <;> rfl
theorem appP_ok {l : List PV} {p : PV} (h : l.length < 1000000) : appP l p = .ok (l ++ [p]) := by
  unfold appP
  rw [if_pos (Nat.lt_of_lt_of_le h (size_ok (Nat.le_refl _)))]
@[simp] theorem sSetI_eq {i : Nat} {f fi : Rho → R PV} {ρ : Rho} : sSetI i f fi ρ = onOwn (getOwn ρ i) fun ps => (f ρ).st ρ fun p => (fi ρ).st ρ fun q => R.own (setP ps p q) ρ i := by
  unfold sSetI getOwn
  cases ρ[i]? with
  | none => rfl
  | some t => cases t <;> rfl
theorem setP_ok {l : List PV} {p : PV} {k : Int} (h : 0 ≤ k) (h2 : k < l.length) : setP l p (.int k) = .ok (l.set k.toNat p) := by
  unfold setP ixN
  dsimp only
  rw [if_pos h, if_pos h2]
def Out.fo (o : Out) (k : Rho → Out) : Out := match o with
  | .next ρ => k ρ
  | .cont ρ => k ρ
  | .brk ρ => .next ρ
  | o => o
@[simp] theorem fo_next {ρ : Rho} {k : Rho → Out} : Out.fo (.next ρ) k = k ρ := nr rfl
@[simp] theorem fo_cont {ρ : Rho} {k : Rho → Out} : Out.fo (.cont ρ) k = k ρ := nr rfl
@[simp] theorem fo_brk {ρ : Rho} {k : Rho → Out} : Out.fo (.brk ρ) k = .next ρ := nr rfl
@[simp] theorem fo_ret {p : PV} {k : Rho → Out} : Out.fo (.ret p) k = .ret p := nr rfl
@[simp] theorem fo_exc {c : Str} {ρ : Rho} {k : Rho → Out} : Out.fo (.exc c ρ) k = .exc c ρ := nr rfl
@[simp] theorem forL_nil {tgt : PV → Rho → Option Rho} {body : Rho → Out} {ρ : Rho} : forL tgt body [] ρ = .next ρ := nr rfl
def onR (o : Option Rho) (k : Rho → Out) : Out := match o with
  | some ρ => k ρ
  | none => .stuck
@[simp] theorem onR_some {ρ : Rho} {k : Rho → Out} : onR (some ρ) k = k ρ := nr rfl
theorem forL_cons {tgt : PV → Rho → Option Rho} {body : Rho → Out} {p : PV} {ps : List PV} {ρ : Rho} : forL tgt body (p :: ps) ρ = onR (tgt p ρ) fun ρ1 => Out.fo (body ρ1) (forL tgt body ps) := by
  show (match tgt p ρ with | none => Out.stuck | some ρ1 => match body ρ1 with | .next ρ' => forL tgt body ps ρ' | .cont ρ' => forL tgt body ps ρ' | .brk ρ' => .next ρ' | o => o) = _
  unfold onR Out.fo
  cases tgt p ρ with
  | none => rfl
  | some ρ1 => cases body ρ1 <;> rfl
theorem cut_map {α β : Type} (f : α → β) (l : List α) (lo hi : Option Int) : cutG (l.map f) lo hi = (cutG l lo hi).map f := by
  unfold cutG
  rw [List.length_map, List.map_take, List.map_drop]
theorem sIx_none (n k : Nat) : HT.sIx n k none = k := rfl
theorem cut_drop {α : Type} (l : List α) (k : Int) (h : 0 ≤ k) : cutG l (some k) none = l.drop k.toNat := by
  unfold cutG
  have e : HT.sIx l.length 0 (some k) = min k.toNat l.length := by
    unfold HT.sIx; dsimp only; rw [if_neg (by omega)]
  rw [e, sIx_none]
  rw [List.take_of_length_le (by rw [List.length_drop]; omega)]
  by_cases h2 : k.toNat ≤ l.length
  · rw [Nat.min_eq_left h2]
  · rw [Nat.min_eq_right (by omega), List.drop_eq_nil_of_le (Nat.le_refl _), List.drop_eq_nil_of_le (by omega)]
theorem cut_take {α : Type} (l : List α) (k : Int) (h : 0 ≤ k) : cutG l none (some k) = l.take k.toNat := by
  unfold cutG
  have e : HT.sIx l.length l.length (some k) = min k.toNat l.length := by
    unfold HT.sIx; dsimp only; rw [if_neg (by omega)]
  rw [e, sIx_none, List.drop_zero, Nat.sub_zero]
  by_cases h2 : k.toNat ≤ l.length
  · rw [Nat.min_eq_left h2]
  · rw [Nat.min_eq_right (by omega), List.take_of_length_le (Nat.le_refl _), List.take_of_length_le (by omega)]
@[simp] theorem eSl_eq {g : PV → Option Int → Option Int → R PV} {f : Rho → R PV} {lo hi : Rho → R (Option Int)} {ρ : Rho} : eSl g f lo hi ρ = (f ρ).bind fun p => (lo ρ).bind fun l => (hi ρ).bind fun h => g p l h := nr rfl
@[simp] theorem oNone_eq {ρ : Rho} : oNone ρ = .ok none := nr rfl
@[simp] theorem oSome_eq {f : Rho → R PV} {ρ : Rho} : oSome f ρ = (f ρ).bind fun p => (asI p).bind fun i => .ok (some i) := nr rfl
@[simp] theorem slP_l {l : List PV} {lo hi : Option Int} : slP (.lst l) lo hi = .ok (.lst (cutG l lo hi)) := nr rfl
@[simp] theorem slP_f {l : List PV} {lo hi : Option Int} : slP (.frz l) lo hi = .ok (.lst (cutG l lo hi)) := nr rfl
@[simp] theorem slP_t {l : List PV} {lo hi : Option Int} : slP (.tup l) lo hi = .ok (.tup (cutG l lo hi)) := nr rfl
@[simp] theorem slL_l {l : List PV} {lo hi : Option Int} : slL (.lst l) lo hi = .ok (.lst (cutG l lo hi)) := nr rfl
@[simp] theorem tupleP_l {l : List PV} : tupleP [.lst l] = .ok (.tup l) := nr rfl
@[simp] theorem tupleP_t {l : List PV} : tupleP [.tup l] = .ok (.tup l) := nr rfl
@[simp] theorem tupleP_f {l : List PV} : tupleP [.frz l] = .ok (.tup l) := nr rfl
@[simp] theorem listP_l {l : List PV} : listP [.lst l] = .ok (.lst l) := nr rfl
@[simp] theorem listP_t {l : List PV} : listP [.tup l] = .ok (.lst l) := nr rfl
theorem addP_ok {a b : List PV} (h : a.length + b.length ≤ 1000000) : addP (.lst a) (.lst b) = .ok (.lst (a ++ b)) := by
  unfold addP; dsimp only; rw [if_pos (size_ok h)]
def figOk (p : Int) : PV → Bool
  | .int n => decide (0 ≤ n) && decide (n < p)
  | _ => false
theorem all_map (p : Int) (l : List PV) : (l.map (figOk p)).all id = l.all (figOk p) := by rw [List.all_map]; rfl
/-- the items of a written list or tuple of numbers -/
def SeqI (x : PV) (ds : List Int) : Prop := x = .lst (ds.map PV.int) ∨ x = .tup (ds.map PV.int)
theorem SeqI.ix {x : PV} {ds : List Int} (h : SeqI x ds) (k : Nat) (hk : k < ds.length) : ixP x (.int k) = .ok (.int (ds.getD k 0)) := by
  rcases h with rfl | rfl
  · exact ixP_lst (by omega) (getD_map ds _ (by omega))
  · exact ixP_tup (by omega) (getD_map ds _ (by omega))
theorem SeqI.len {x : PV} {ds : List Int} (h : SeqI x ds) : lenP [x] = .ok (.int ds.length) := by
  rcases h with rfl | rfl <;> simp
@[simp] theorem eqP_tt0 : eqP (.tup []) (.tup []) = .ok (.bl true) := by rw [eqP_ok (by simp) (by simp)]; simp
end PM
set_option Elab.async false
set_option linter.all false
set_option maxRecDepth 100000
set_option autoImplicit false
namespace PM
open PySem PySem.Spec L2 PL
open PyProof.Rows hiding St
@[simp] theorem sPar_eq {i j : Nat} {f g : Rho → R PV} {ρ : Rho} : sPar i j (aCons f (aCons g aNil)) ρ = (f ρ).st ρ fun p => (g ρ).st ρ fun q => .next ((ρ.set i (.val p)).set j (.val q)) := by
  unfold sPar aCons R.st
  cases f ρ with
  | exc c => rfl
  | stuck => rfl
  | ok p => cases g ρ <;> rfl
@[simp] theorem absP_i {a : Int} : absP [.int a] = .ok (.int a.natAbs) := by
  have e : absP [.int a] = .ok (.int (if a < 0 then -a else a)) := rfl
  rw [e]
  congr 2
  split <;> omega
/-- Euclid's loop, on whichever test of the other one -/
theorem gcd_run (test : Rho → R Bool) (ht : ∀ x y : Nat, test [.val (.int x), .val (.int y)] = .ok (decide (y ≠ 0))) : ∀ (y x : Nat),
    sWh test (bSeq (sPar 0 1 (aCons (eV 1) (aCons (e2 modP (eVo 0) (eVo 1)) aNil))) bNil) [.val (.int x), .val (.int y)] = .next [.val (.int (Nat.gcd x y)), .val (.int 0)] := by
  intro y
  induction y using Nat.strongRecOn with
  | _ y ih =>
    intro x
    rw [sWh_eq, ht]
    by_cases h : y = 0
    · subst h; simp
    · have hy : (0 : Int) < y := by omega
      have i := ih (x % y) (Nat.mod_lt x (by omega)) y
      have e : ((x : Int) % (y : Int)) = ((x % y : Nat) : Int) := by omega
      have g : Nat.gcd y (x % y) = Nat.gcd x y := by rw [Nat.gcd_comm x y, Nat.gcd_rec y x, Nat.gcd_comm (x % y) y]
      rw [g, ← e] at i
      simp [h, modP_pos hy, i]
theorem gcd_of_neg (a b : Int) : Nat.gcd a.natAbs b.natAbs = Int.gcd a b := rfl
theorem f_divisor (a b : Int) : F_divisor [.int a, .int b] = .ok (.int (Int.gcd a b)) := by
  show (D_divisor [.val (.int a), .val (.int b)]).res = _
  have r := gcd_run (tB1 (e2 gtP (eVo 1) (eC (.int 0)))) (fun x y => by
    have q : decide ((0 : Int) < (y : Int)) = decide (y ≠ 0) := by rw [decide_eq_decide]; omega
    simp only [tB1_eq, e2_eq, eVos, eVo0, eC_eq, bind1, gtP_ii, asB_eq, q]) b.natAbs a.natAbs
  simp only [D_divisor, bSeq_eq, sSet_eq, eD_eq, aCons_eq, aNil_eq, eVo0, eVos, bind1, absP_i, st_ok, then_next, List.set_cons_succ, List.set_cons_zero, r, sRet_eq, eV0, then_ret, res_ret]
  rfl
/-- the sign and the share -/
def fs (t b : Int) : Int := if b < 0 then -(Int.gcd t b : Int) else (Int.gcd t b : Int)
def ftop (t b : Int) : Int := t / fs t b
def fbot (t b : Int) : Int := b / fs t b
def fracV (t b : Int) : PV := .tup [.int t, .int b]
theorem gcd_pos {t b : Int} (hb : b ≠ 0) : 0 < Int.gcd t b := Int.gcd_pos_of_ne_zero_right t hb
theorem fs_dvd_t (t b : Int) : fs t b ∣ t := by
  unfold fs
  split
  · exact Int.neg_dvd.mpr (Int.gcd_dvd_left t b)
  · exact Int.gcd_dvd_left t b
theorem fs_dvd_b (t b : Int) : fs t b ∣ b := by
  unfold fs
  split
  · exact Int.neg_dvd.mpr (Int.gcd_dvd_right t b)
  · exact Int.gcd_dvd_right t b
theorem fs_ne {t b : Int} (hb : b ≠ 0) : fs t b ≠ 0 := by
  have := gcd_pos (t := t) hb
  unfold fs
  split <;> omega
theorem ftop_mul (t b : Int) : ftop t b * fs t b = t := Int.ediv_mul_cancel (fs_dvd_t t b)
theorem fbot_mul (t b : Int) : fbot t b * fs t b = b := Int.ediv_mul_cancel (fs_dvd_b t b)
theorem fbot_pos {t b : Int} (hb : b ≠ 0) : 0 < fbot t b := by
  have h := fbot_mul t b
  have hg := gcd_pos (t := t) hb
  rcases Int.lt_trichotomy (fbot t b) 0 with n | z | p
  · exfalso
    unfold fs at h
    split at h
    · have := Int.mul_pos_of_neg_of_neg n (show -(Int.gcd t b : Int) < 0 by omega)
      omega
    · have := Int.mul_neg_of_neg_of_pos n (show (0 : Int) < (Int.gcd t b : Int) by omega)
      omega
  · rw [z, Int.zero_mul] at h; exact absurd h.symm hb
  · exact p
theorem fcross (t b : Int) : ftop t b * b = t * fbot t b := by
  have h1 := ftop_mul t b
  have h2 := fbot_mul t b
  calc ftop t b * b = ftop t b * (fbot t b * fs t b) := by rw [h2]
    _ = (ftop t b * fs t b) * fbot t b := by rw [Int.mul_comm (fbot t b), Int.mul_assoc]
    _ = t * fbot t b := by rw [h1]
theorem flow {t b : Int} (hb : b ≠ 0) : Int.gcd (ftop t b) (fbot t b) = 1 := by
  have h1 := ftop_mul t b
  have h2 := fbot_mul t b
  have hg := gcd_pos (t := t) hb
  have e : Int.gcd (ftop t b * fs t b) (fbot t b * fs t b) = Int.gcd (ftop t b) (fbot t b) * (fs t b).natAbs := Int.gcd_mul_right ..
  rw [h1, h2] at e
  have e2 : (fs t b).natAbs = Int.gcd t b := by unfold fs; split <;> omega
  rw [e2] at e
  have : 1 * Int.gcd t b = Int.gcd (ftop t b) (fbot t b) * Int.gcd t b := by rw [Nat.one_mul]; exact e
  exact (Nat.eq_of_mul_eq_mul_right hg this).symm
theorem f_fraction (t b : Int) (hb : b ≠ 0) (hz : b.natAbs < 2 ^ 8000) : F_fraction [.int t, .int b] = .ok (fracV (ftop t b) (fbot t b)) := by
  refine (runF_eq (n := 3) (u := D_fraction)).trans ?_
  show (D_fraction [.val (.int t), .val (.int b), .un]).res = _
  have hg := gcd_pos (t := t) hb
  have hle : Int.gcd t b ≤ b.natAbs := Nat.le_of_dvd (by omega) (Int.gcd_dvd_natAbs_right t b)
  have hb' : (b == 0) = false := by simpa using hb
  have hzs : (fs t b).natAbs < 2 ^ 9000 := by
    have : (2 : Nat) ^ 8000 ≤ 2 ^ 9000 := Nat.pow_le_pow_right (by omega) (by omega)
    unfold fs; split <;> omega
  have d1 : fdivP (.int t) (.int (fs t b)) = .ok (.int (ftop t b)) := by
    rw [fdivP_ii (fs_ne hb) hzs, Int.fdiv_eq_ediv_of_dvd (fs_dvd_t t b)]; rfl
  have d2 : fdivP (.int b) (.int (fs t b)) = .ok (.int (fbot t b)) := by
    rw [fdivP_ii (fs_ne hb) hzs, Int.fdiv_eq_ediv_of_dvd (fs_dvd_b t b)]; rfl
  by_cases h : b < 0
  · have e : fs t b = -(Int.gcd t b : Int) := by unfold fs; rw [if_pos h]
    rw [e] at d1 d2
    simp [D_fraction, f_is_whole, hb', f_divisor, h, d1, d2, fracV]
  · have e : fs t b = (Int.gcd t b : Int) := by unfold fs; rw [if_neg h]
    rw [e] at d1 d2
    simp [D_fraction, f_is_whole, hb', f_divisor, h, d1, d2, fracV]
/-- sizes -/
theorem mul_sz {a b : Int} (ha : a.natAbs < 2 ^ 3900) (hb : b.natAbs < 2 ^ 3900) : mulP (.int a) (.int b) = .ok (.int (a * b)) := mulP_ii (okMul_of ha hb (by omega) (by omega) (by omega))
theorem mul_lt {a b : Int} {m n : Nat} (ha : a.natAbs < 2 ^ m) (hb : b.natAbs < 2 ^ n) {k : Nat} (hk : m + n ≤ k) : (a * b).natAbs < 2 ^ k := Nat.lt_of_lt_of_le (mul_bound ha hb) (Nat.pow_le_pow_right (by omega) hk)
theorem sz_le {a : Int} {m k : Nat} (ha : a.natAbs < 2 ^ m) (hk : m ≤ k) : a.natAbs < 2 ^ k := Nat.lt_of_lt_of_le ha (Nat.pow_le_pow_right (by omega) hk)
theorem add_lt {a b : Int} {m n k : Nat} (ha : a.natAbs < 2 ^ m) (hb : b.natAbs < 2 ^ n) (h1 : m + 1 ≤ k) (h2 : n + 1 ≤ k) : (a + b).natAbs < 2 ^ k := by
  have e1 : (2 : Nat) ^ (m + 1) ≤ 2 ^ k := Nat.pow_le_pow_right (by omega) h1
  have e2 : (2 : Nat) ^ (n + 1) ≤ 2 ^ k := Nat.pow_le_pow_right (by omega) h2
  rw [Nat.pow_succ] at e1 e2
  omega
theorem mul_ne {b d : Int} (hb : b ≠ 0) (hd : d ≠ 0) : b * d ≠ 0 := Int.mul_ne_zero hb hd
section
variable {a b c d : Int} (ha : a.natAbs < 2 ^ 3900) (hb : b.natAbs < 2 ^ 3900) (hc : c.natAbs < 2 ^ 3900) (hd : d.natAbs < 2 ^ 3900)
include ha hb hc hd
theorem f_plus (nb : b ≠ 0) (nd : d ≠ 0) : F_plus_fraction [fracV a b, fracV c d] = .ok (fracV (ftop (a * d + c * b) (b * d)) (fbot (a * d + c * b) (b * d))) := by
  refine (runF_eq (n := 2) (u := D_plus_fraction)).trans ?_
  show (D_plus_fraction [.val (fracV a b), .val (fracV c d)]).res = _
  have f := f_fraction (a * d + c * b) (b * d) (mul_ne nb nd) (mul_lt hb hd (by omega))
  simp [D_plus_fraction, fracV, mul_sz ha hd, mul_sz hc hb, mul_sz hb hd] at f ⊢
  simp [f]
theorem f_times (nb : b ≠ 0) (nd : d ≠ 0) : F_times_fraction [fracV a b, fracV c d] = .ok (fracV (ftop (a * c) (b * d)) (fbot (a * c) (b * d))) := by
  refine (runF_eq (n := 2) (u := D_times_fraction)).trans ?_
  show (D_times_fraction [.val (fracV a b), .val (fracV c d)]).res = _
  have f := f_fraction (a * c) (b * d) (mul_ne nb nd) (mul_lt hb hd (by omega))
  simp [D_times_fraction, fracV, mul_sz ha hc, mul_sz hb hd] at f ⊢
  simp [f]
end
theorem val_ex (p : Int) (hp : 2 ≤ p) : ∀ (k : Nat) (n : Int), n.natAbs ≤ k → n ≠ 0 → ∃ (m : Int) (v : Nat), n = m * p ^ v ∧ m % p ≠ 0 := by
  intro k
  induction k with
  | zero => intro n h h0; omega
  | succ k ih =>
    intro n h h0
    by_cases hd : n % p = 0
    · have e : n / p * p = n := Int.ediv_mul_cancel (Int.dvd_of_emod_eq_zero hd)
      have hn : n / p ≠ 0 := fun z => by rw [z, Int.zero_mul] at e; exact h0 e.symm
      have hlt : (n / p).natAbs < n.natAbs := by
        have : n.natAbs = (n / p).natAbs * p.natAbs := by rw [← Int.natAbs_mul, e]
        have h1 : 0 < (n / p).natAbs := by omega
        have h2 : 2 ≤ p.natAbs := by omega
        have := Nat.mul_le_mul_left (n / p).natAbs h2
        omega
      obtain ⟨m, v, e2, hm⟩ := ih (n / p) (by omega) hn
      refine ⟨m, v + 1, ?_, hm⟩
      rw [Int.pow_succ, ← Int.mul_assoc, ← e2, e]
    · exact ⟨n, 0, by simp, hd⟩
/-- how often p divides n -/
noncomputable def vp (p n : Int) : Int := if h : 2 ≤ p ∧ n ≠ 0 then ((val_ex p h.1 n.natAbs n (Nat.le_refl _) h.2).choose_spec.choose : Nat) else 0
theorem vp_spec {p n : Int} (hp : 2 ≤ p) (hn : n ≠ 0) : ∃ (m : Int) (v : Nat), n = m * p ^ v ∧ m % p ≠ 0 ∧ vp p n = v := by
  have h : 2 ≤ p ∧ n ≠ 0 := ⟨hp, hn⟩
  have s := (val_ex p h.1 n.natAbs n (Nat.le_refl _) h.2).choose_spec.choose_spec
  exact ⟨_, _, s.1, s.2, by unfold vp; rw [dif_pos h]⟩
theorem vp_uniq {p m n : Int} {u v : Nat} (hp : 2 ≤ p) (e : m * p ^ u = n * p ^ v) (hm : m % p ≠ 0) (hn : n % p ≠ 0) : u = v := by
  have key : ∀ {m n : Int} {u v : Nat}, m * p ^ u = n * p ^ v → m % p ≠ 0 → n % p ≠ 0 → u ≤ v := fun {m n u v} e hm hn => by
    refine Nat.le_of_not_lt fun h => hn ?_
    obtain ⟨k, rfl⟩ : ∃ k, u = v + (k + 1) := ⟨u - v - 1, by omega⟩
    rw [Int.pow_add, Int.mul_comm (p ^ v), ← Int.mul_assoc] at e
    have hpv : p ^ v ≠ 0 := Int.pow_ne_zero (by omega)
    have e2 := Int.eq_of_mul_eq_mul_right hpv e
    rw [← e2, Int.pow_succ, ← Int.mul_assoc]
    exact Int.mul_emod_left _ _
  exact Nat.le_antisymm (key e hm hn) (key e.symm hn hm)
end PM
namespace PM
theorem ftop_le {t b : Int} (hb : b ≠ 0) : (ftop t b).natAbs ≤ t.natAbs := by
  have h := congrArg Int.natAbs (ftop_mul t b)
  rw [Int.natAbs_mul] at h
  have : 1 ≤ (fs t b).natAbs := by have := fs_ne (t := t) hb; omega
  calc (ftop t b).natAbs = (ftop t b).natAbs * 1 := (Nat.mul_one _).symm
    _ ≤ (ftop t b).natAbs * (fs t b).natAbs := Nat.mul_le_mul_left _ this
    _ = t.natAbs := h
theorem fbot_le {t b : Int} (hb : b ≠ 0) : (fbot t b).natAbs ≤ b.natAbs := by
  have h := congrArg Int.natAbs (fbot_mul t b)
  rw [Int.natAbs_mul] at h
  have : 1 ≤ (fs t b).natAbs := by have := fs_ne (t := t) hb; omega
  calc (fbot t b).natAbs = (fbot t b).natAbs * 1 := (Nat.mul_one _).symm
    _ ≤ (fbot t b).natAbs * (fs t b).natAbs := Nat.mul_le_mul_left _ this
    _ = b.natAbs := h
end PM
namespace PM
open PySem PySem.Spec L2 PL
open PyProof.Rows hiding St
theorem stp {i : Nat} {f : Rho → R PV} {k : Rho → Out} {ρ : Rho} (p : PV) {r : R PV} (h : f ρ = .ok p) (g : (k (ρ.set i (.val p))).res = r) : (bSeq (sSet i f) k ρ).res = r := by
  rw [bSeq_eq, sSet_eq, h, st_ok, then_next]; exact g
theorem skp {t : Rho → R Bool} {u k : Rho → Out} {ρ : Rho} {r : R PV} (h : t ρ = .ok false) (g : (k ρ).res = r) : (bSeq (sIf t u bNil) k ρ).res = r := by
  rw [bSeq_eq, sIf_eq, h, stB_ok, if_neg Bool.false_ne_true, bNil_eq, then_next]; exact g
end PM
namespace PM
open PySem PySem.Spec L2 PL
open PyProof.Rows hiding St
theorem sTry_exc {i : Nat} {cs : List Str} {body : Rho → Out} {su : Str → Addr → Rho → Out} {ρ ρ' : Rho} {c : Str} {o : Out} (h : body ρ = .exc c ρ') (hc : c ∈ cs) (h2 : ∀ a, behindX i (su c a (ρ'.set i (.ex a))) = o) : sTry i cs body su ρ = o := by
  unfold sTry
  rw [h]
  dsimp only
  rw [if_pos hc]
  exact tryX_of h2
@[simp] theorem isX0 {a : Addr} {b : Bool} {ρ : Rho} : isX 0 a b (.ex a :: ρ) = .ok (.bl b) := by
  have e : isX 0 a b (.ex a :: ρ) = (if a = a then .ok (.bl b) else .stuck) := rfl
  rw [e, if_pos rfl]
@[simp] theorem isXs {i : Nat} {a : Addr} {b : Bool} {s : Slot} {ρ : Rho} : isX (i + 1) a b (s :: ρ) = isX i a b ρ := by simp [isX]
@[simp] theorem hotCs {i : Nat} {a : Addr} {F : Addr → R PV} {s : Slot} {ρ : Rho} : hotC (i + 1) a F (s :: ρ) = hotC i a F ρ := by simp [hotC]
@[simp] theorem behind_next {i : Nat} {ρ : Rho} : behindX i (.next ρ) = .next (ρ.set i .un) := nr rfl
@[simp] theorem behind_ret {i : Nat} {p : PV} : behindX i (.ret p) = .ret p := nr rfl
theorem ftop_one (t : Int) : ftop t 1 = t ∧ fbot t 1 = 1 := by
  have e : fs t 1 = 1 := by
    have : Int.gcd t 1 = 1 := Int.gcd_one_right t
    unfold fs
    rw [this] <;> rfl
  unfold ftop fbot
  rw [e]
  exact ⟨Int.ediv_one t, rfl⟩
end PM
set_option Elab.async false
set_option linter.all false
set_option maxRecDepth 100000
set_option autoImplicit false
set_option exponentiation.threshold 20000
namespace PM
open PySem PySem.Spec L2 PL
open PyProof.Rows hiding St
def Dg (p : Int) (ds : List Int) : Prop := ∀ d ∈ ds, 0 ≤ d ∧ d < p
def U (p : Int) : List Int → Int
  | [] => 0
  | d :: r => U p r * p + d
/-- a left number in its form -/
structure Lf (p : Int) (ds : List Int) (n : Nat) : Prop where
  pr : p ∈ primesL
  dg : Dg p ds
  hd : ds.head? ≠ some 0
  len : ds.length ≤ n
theorem Lf.b {p : Int} {ds : List Int} {n : Nat} (h : Lf p ds n) : 2 ≤ p ∧ p ≤ 97 := primesL_le p h.pr
theorem minP_ok (a b : Int) : minP [.int a, .int b] = .ok (.int (min a b)) := by
  have e : minP [.int a, .int b] = .ok (.int (if b < a then b else a)) := rfl
  rw [e]; congr 2; split <;> omega
end PM
namespace PM
open PL
theorem log2_le_lt {a b m : Nat} (h : a ≤ b) (hb : b.log2 < m) : a.log2 < m := by
  by_cases h0 : a = 0
  · subst h0; rw [Nat.log2_zero]; omega
  · exact (Nat.log2_lt h0).mpr (Nat.lt_of_le_of_lt h ((Nat.log2_lt (by omega)).mp hb))
theorem okMul_log {a b : Int} {m n : Nat} (ha : a.natAbs.log2 < m) (hb : b.natAbs.log2 < n) (h : m + n ≤ 100000000) : okMul a b = true := decide_eq_true (by omega)
theorem nth_log (ns : List Int) (hb : ∀ z ∈ ns, z.natAbs.log2 < 1048577) (k : Int) : (nth ns k).natAbs.log2 < 1048577 := by
  unfold nth
  rw [List.getD_eq_getElem?_getD]
  cases h : ns[k.toNat]? with
  | none => simp
  | some z => exact hb z (List.mem_of_getElem? h)
end PM
namespace PM
open PySem PySem.Spec L2 PL
open PyProof.Rows hiding St
end PM
namespace PM
open PySem PySem.Spec L2 PL
open PyProof.Rows hiding St
end PM
set_option Elab.async false
set_option linter.all false
set_option maxRecDepth 100000
set_option autoImplicit false
set_option exponentiation.threshold 20000
namespace PM
open PySem PySem.Spec L2 PL
open PyProof.Rows hiding St
/-- alike but for multiples -/
def Mo (m x y : Int) : Prop := ∃ z, x = y + m * z
theorem Mo.refl (m x : Int) : Mo m x x := ⟨0, by simp⟩
theorem Mo.of_eq {m x y : Int} (h : x = y) : Mo m x y := h ▸ Mo.refl m x
theorem Mo.symm {m x y : Int} (h : Mo m x y) : Mo m y x := by obtain ⟨z, h⟩ := h; exact ⟨-z, by grind⟩
theorem Mo.trans {m x y w : Int} (h : Mo m x y) (g : Mo m y w) : Mo m x w := by
  obtain ⟨z, h⟩ := h; obtain ⟨u, g⟩ := g; exact ⟨z + u, by grind⟩
theorem Mo.add {m x y u v : Int} (h : Mo m x y) (g : Mo m u v) : Mo m (x + u) (y + v) := by
  obtain ⟨z, h⟩ := h; obtain ⟨w, g⟩ := g; exact ⟨z + w, by grind⟩
theorem Mo.sub {m x y u v : Int} (h : Mo m x y) (g : Mo m u v) : Mo m (x - u) (y - v) := by
  obtain ⟨z, h⟩ := h; obtain ⟨w, g⟩ := g; exact ⟨z - w, by grind⟩
theorem Mo.mul {m x y u v : Int} (h : Mo m x y) (g : Mo m u v) : Mo m (x * u) (y * v) := by
  obtain ⟨z, h⟩ := h; obtain ⟨w, g⟩ := g; exact ⟨y * w + z * v + m * z * w, by subst h g; grind⟩
theorem Mo.dvd {m k x y : Int} (h : Mo (m * k) x y) : Mo m x y := by
  obtain ⟨z, h⟩ := h; exact ⟨k * z, by rw [h, Int.mul_assoc]⟩
theorem Mo.scale {m x y : Int} (k : Int) (h : Mo m x y) : Mo (m * k) (x * k) (y * k) := by
  obtain ⟨z, h⟩ := h; exact ⟨z, by subst h; grind⟩
theorem Mo.eq {m x y : Int} (h : Mo m x y) : x % m = y % m := by
  obtain ⟨z, h⟩ := h; rw [h, Int.add_mul_emod_self_left]
theorem pow_split (p : Int) {a b : Nat} (h : a ≤ b) : p ^ b = p ^ a * p ^ (b - a) := by rw [← Int.pow_add]; congr 1; omega
theorem Mo.low {p x y : Int} {a b : Nat} (h : Mo (p ^ b) x y) (hab : a ≤ b) : Mo (p ^ a) x y := by
  rw [pow_split p hab] at h; exact h.dvd
/-- the figures' sum over a base -/
def V (p b e : Int) (ds : List Int) : Int := U p ds * p ^ (e - b).toNat
theorem V_self (p e : Int) (ds : List Int) : V p e e ds = U p ds := by unfold V; rw [Int.sub_self]; simp
theorem V_shift (p : Int) {b c e : Int} (ds : List Int) (h : b ≤ c) (h2 : c ≤ e) : V p b e ds = V p c e ds * p ^ (c - b).toNat := by
  unfold V; rw [Int.mul_assoc, ← Int.pow_add]; congr 2; omega
/-- one goes on where the other ends -/
structure Ext (p e' : Int) (ds' : List Int) (e : Int) (ds : List Int) : Prop where
  le : e ≤ e'
  en : e + ds.length ≤ e' + ds'.length
  mo : Mo (p ^ ds.length) (V p e e' ds') (U p ds)
theorem Ext.refl (p e : Int) (ds : List Int) : Ext p e ds e ds := ⟨Int.le_refl _, Int.le_refl _, by rw [V_self]; exact Mo.refl _ _⟩
theorem Ext.base {p e' e : Int} {ds' ds : List Int} (h : Ext p e' ds' e ds) {b : Int} (hb : b ≤ e) : Mo (p ^ (e + ds.length - b).toNat) (V p b e' ds') (V p b e ds) := by
  rw [V_shift p ds' hb h.le, V_shift p ds hb (Int.le_refl e), V_self, show (e + ds.length - b).toNat = ds.length + (e - b).toNat by omega, Int.pow_add]
  exact h.mo.scale _
end PM
namespace PM
open PySem PySem.Spec L2 PL
open PyProof.Rows hiding St
theorem prime_mul : ∀ p ∈ primesN, ∀ a : Nat, a < p → ∀ b : Nat, b < p → a ≠ 0 → b ≠ 0 → a * b % p ≠ 0 := by decide +kernel
theorem prime_mulI {p a b : Int} (hp : p ∈ primesL) (ha : a % p ≠ 0) (hb : b % p ≠ 0) : a * b % p ≠ 0 := by
  have hpb := primesL_le p hp
  rw [Int.mul_emod]
  have a1 := Int.emod_nonneg a (show p ≠ 0 by omega)
  have a2 := Int.emod_lt_of_pos a (show 0 < p by omega)
  have b1 := Int.emod_nonneg b (show p ≠ 0 by omega)
  have b2 := Int.emod_lt_of_pos b (show 0 < p by omega)
  have e2 : primesL = primesN.map fun (n : Nat) => (n : Int) := rfl
  rw [e2] at hp
  obtain ⟨n, hn, rfl⟩ := List.mem_map.mp hp
  obtain ⟨x, hx⟩ : ∃ x : Nat, a % (n : Int) = x := ⟨(a % (n : Int)).toNat, by omega⟩
  obtain ⟨y, hy⟩ : ∃ y : Nat, b % (n : Int) = y := ⟨(b % (n : Int)).toNat, by omega⟩
  rw [hx, hy]
  rw [hx] at ha a2
  rw [hy] at hb b2
  have := prime_mul n hn x (by omega) y (by omega) (by omega) (by omega)
  rw [← Int.natCast_mul, ← Int.natCast_emod]
  omega
end PM
namespace PM
open PySem PySem.Spec L2 PL
open PyProof.Rows hiding St
theorem Lf.le {p : Int} {ds : List Int} {n m : Nat} (h : Lf p ds n) (hm : n ≤ m) : Lf p ds m := ⟨h.pr, h.dg, h.hd, Nat.le_trans h.len hm⟩
end PM
set_option Elab.async false
set_option linter.all false
set_option maxRecDepth 100000
set_option autoImplicit false
set_option exponentiation.threshold 20000
namespace PM
open PySem PySem.Spec L2 PL
open PyProof.Rows hiding St
theorem prime_cop : ∀ p ∈ primesN, ∀ a : Nat, a < p → a ≠ 0 → Nat.gcd a p = 1 := by decide +kernel
theorem gcd_mod (a w : Int) : Int.gcd (a % w) w = Int.gcd a w := by
  have e : a = a % w + w * (a / w) := by have := Int.mul_ediv_add_emod a w; omega
  conv => rhs; rw [e]
  rw [Int.gcd_add_mul_left_left]
theorem prime_gcd {p a : Int} (hp : p ∈ primesL) (ha : a % p ≠ 0) (k : Nat) : Int.gcd a (p ^ k) = 1 := by
  have hpb := primesL_le p hp
  have e2 : primesL = primesN.map fun (n : Nat) => (n : Int) := rfl
  rw [e2] at hp
  obtain ⟨n, hn, rfl⟩ := List.mem_map.mp hp
  obtain ⟨x, hx⟩ : ∃ x : Nat, a % (n : Int) = x := ⟨(a % (n : Int)).toNat, by have := Int.emod_nonneg a (show (n : Int) ≠ 0 by omega); omega⟩
  have hlt := Int.emod_lt_of_pos a (show 0 < (n : Int) by omega)
  rw [hx] at ha hlt
  have g := prime_cop n hn x (by omega) (by omega)
  have e : Int.gcd a (n : Int) = 1 := by
    have h1 : Int.gcd (a % (n : Int)) (n : Int) = Int.gcd a (n : Int) := gcd_mod _ _
    rw [← h1, hx]; exact g
  have e3 : Nat.Coprime a.natAbs (n ^ k) := Nat.Coprime.pow_right k e
  show Nat.gcd a.natAbs ((n : Int) ^ k).natAbs = 1
  rw [Int.natAbs_pow]; exact e3
theorem le_of_mul_le {a x w : Int} (hx : 0 < x) (ha : 0 ≤ a) (h : a * x ≤ w) : a ≤ w := by
  have := Int.mul_le_mul_of_nonneg_left (show 1 ≤ x by omega) ha
  omega
end PM
namespace PM
open PySem PySem.Spec L2 PL
open PyProof.Rows hiding St
theorem maxP_ok (a b : Int) : maxP [.int a, .int b] = .ok (.int (max a b)) := by
  have e : maxP [.int a, .int b] = .ok (.int (if b > a then b else a)) := rfl
  rw [e]; congr 2; split <;> omega
end PM
namespace PM
open PySem PySem.Spec L2 PL
open PyProof.Rows hiding St
end PM
set_option Elab.async false
set_option linter.all false
set_option maxRecDepth 100000
set_option autoImplicit false
set_option exponentiation.threshold 20000
namespace PM
open PySem PySem.Spec L2 PL
open PyProof.Rows hiding St
/-- two neighbours of the row of rests -/
structure Nb (W u z r s v w : Int) : Prop where
  cr : Mo W r (u * s)
  cv : Mo W v (u * w)
  sg : (0 < w ∧ s ≤ 0 ∧ r * w - v * s = W) ∨ (w < 0 ∧ 0 ≤ s ∧ r * w - v * s = -W)
  rz : z < r
  v0 : 0 ≤ v
  vr : v < r
  rW : r ≤ W
  sW : -W ≤ s ∧ s ≤ W
theorem Nb.wW {W u z r s v w : Int} (h : Nb W u z r s v w) (hz : 1 ≤ z) : -W ≤ w ∧ w ≤ W := by
  have hr := h.rz
  have v0 := h.v0
  have hW := h.rW
  rcases h.sg with ⟨h1, h2, h3⟩ | ⟨h1, h2, h3⟩
  · have : v * s ≤ 0 := Int.mul_nonpos_of_nonneg_of_nonpos v0 h2
    have := le_of_mul_le (a := w) (x := r) (w := W) (by omega) (by omega) (by rw [Int.mul_comm]; omega)
    omega
  · have e : 0 ≤ v * s := Int.mul_nonneg v0 h2
    have := le_of_mul_le (a := -w) (x := r) (w := W) (by omega) (by omega) (by rw [Int.neg_mul, Int.mul_comm]; omega)
    omega
theorem Nb.step {W u z r s v w : Int} (h : Nb W u z r s v w) (hz : 1 ≤ z) (hv : z < v) : Nb W u z v w (r % v) (s - r / v * w) := by
  have v0 := h.v0
  have vr := h.vr
  have rW := h.rW
  have ww := h.wW hz
  have q1 : 1 ≤ r / v := (Int.le_ediv_iff_mul_le (by omega)).mpr (by omega)
  have er : r / v * v + r % v = r := by have := Int.mul_ediv_add_emod r v; rw [Int.mul_comm] at this; exact this
  have m0 := Int.emod_nonneg r (show v ≠ 0 by omega)
  have m1 := Int.emod_lt_of_pos r (show 0 < v by omega)
  generalize r / v = q at *
  generalize r % v = m at *
  have det : v * (s - q * w) - m * w = -(r * w - v * s) := by rw [← er]; grind
  refine ⟨h.cv, ?_, ?_, hv, m0, m1, by omega, ww⟩
  · have t := h.cr.sub ((Mo.refl W q).mul h.cv)
    have e : r - q * v = m := by omega
    rw [e] at t
    exact t.trans (.of_eq (by grind))
  · rcases h.sg with ⟨h1, h2, h3⟩ | ⟨h1, h2, h3⟩
    · have : 1 * w ≤ q * w := Int.mul_le_mul_of_nonneg_right q1 (by omega)
      exact .inr ⟨by omega, by omega, by rw [det]; omega⟩
    · have : q * w ≤ 1 * w := Int.mul_le_mul_of_nonpos_right q1 (by omega)
      exact .inl ⟨by omega, by omega, by rw [det]; omega⟩
end PM
set_option Elab.async false
set_option linter.all false
set_option maxRecDepth 100000
set_option autoImplicit false
set_option exponentiation.threshold 20000
namespace PM
open PySem PySem.Spec L2 PL
open PyProof.Rows hiding St
theorem dvd_cop {y x b : Int} (h : y ∣ x * b) (g : Int.gcd y x = 1) : y ∣ b := by
  have h1 : y.natAbs ∣ x.natAbs * b.natAbs := by rw [← Int.natAbs_mul]; exact Int.natAbs_dvd_natAbs.mpr h
  exact Int.natAbs_dvd_natAbs.mp (Nat.Coprime.dvd_of_dvd_mul_left (k := y.natAbs) g h1)
end PM
namespace PM
open PySem PySem.Spec L2 PL
open PyProof.Rows hiding St
theorem stpFor {it : Rho → R (List PV)} {tgt : PV → Rho → Option Rho} {body k : Rho → Out} {ρ : Rho} {r : R PV} (items : List PV) (ρ' : Rho) (hi : it ρ = .ok items) (hf : forL tgt body items ρ = .next ρ') (g : (k ρ').res = r) : (bSeq (sFor it tgt body) k ρ).res = r := by
  rw [bSeq_eq, sFor_eq, hi, stL_ok, hf, then_next]; exact g
end PM
set_option Elab.async false
set_option linter.all false
set_option maxRecDepth 100000
set_option autoImplicit false
set_option exponentiation.threshold 20000
namespace PM
open PySem PySem.Spec L2 PL
open PyProof.Rows hiding St
end PM
set_option Elab.async false
set_option linter.all false
set_option maxRecDepth 100000
set_option autoImplicit false
set_option exponentiation.threshold 20000
namespace PM
open PySem PySem.Spec L2 PL
open PyProof.Rows hiding St
end PM
set_option Elab.async false
set_option linter.all false
set_option maxRecDepth 100000
set_option autoImplicit false
set_option exponentiation.threshold 20000
namespace PM
/-- the sum in A ^ n - B ^ n = (A - B) .. -/
def Gm (A B : Int) : Nat → Int
  | 0 => 0
  | n + 1 => A ^ n + B * Gm A B n
theorem Gm_eq (A B : Int) : ∀ n : Nat, A ^ n = B ^ n + (A - B) * Gm A B n
  | 0 => by simp [Gm]
  | n + 1 => by
    have ih := Gm_eq A B n
    have e : Gm A B (n + 1) = A ^ n + B * Gm A B n := rfl
    rw [e, Int.pow_succ, Int.pow_succ]
    grind
theorem pow_two_up (B D : Int) : ∀ n : Nat, ∃ w, (B + D) ^ (n + 1) = B ^ (n + 1) + (n + 1) * D * B ^ n + D * D * w
  | 0 => ⟨0, by simp [Int.pow_succ]⟩
  | n + 1 => by
    obtain ⟨w, h⟩ := pow_two_up B D n
    refine ⟨(n + 1) * B ^ n + w * (B + D), ?_⟩
    rw [Int.pow_succ, h, Int.pow_succ B (n + 1), Int.pow_succ B n]
    have e : ((n + 1 : Nat) : Int) = (n : Int) + 1 := by omega
    rw [e]
    grind
/-- modulo its square, twice -/
theorem Gm_mod2 (B D : Int) : ∀ n : Nat, ∃ w, 2 * Gm (B + D) B (n + 2) = 2 * (n + 2) * B ^ (n + 1) + (n + 2) * (n + 1) * D * B ^ n + 2 * (D * D) * w
  | 0 => ⟨0, by simp [Gm]; grind⟩
  | n + 1 => by
    obtain ⟨w, h⟩ := Gm_mod2 B D n
    obtain ⟨v, g⟩ := pow_two_up B D (n + 1)
    refine ⟨v + B * w, ?_⟩
    have e : Gm (B + D) B (n + 1 + 2) = (B + D) ^ (n + 2) + B * Gm (B + D) B (n + 2) := rfl
    have e2 : ((n + 1 : Nat) : Int) = (n : Int) + 1 := by omega
    rw [e, Int.mul_add, g, e2]
    rw [e2] at g
    have h' : 2 * (B * Gm (B + D) B (n + 2)) = B * (2 * (n + 2) * B ^ (n + 1) + (n + 2) * (n + 1) * D * B ^ n + 2 * (D * D) * w) := by rw [← h]; grind
    rw [h', Int.pow_succ B (n + 1), Int.pow_succ B n]
    grind
theorem pow_ne {p B : Int} (hp : p ∈ primesL) (hB : B % p ≠ 0) : ∀ n : Nat, B ^ n % p ≠ 0
  | 0 => by
    have := primesL_le p hp
    rw [Int.pow_zero, Int.emod_eq_of_lt (by omega) (by omega)]; omega
  | n + 1 => by rw [Int.pow_succ]; exact prime_mulI hp (pow_ne hp hB n) hB
theorem ne_add {p a b : Int} (ha : a % p ≠ 0) : (a + p * b) % p ≠ 0 := by rw [Int.add_mul_emod_self_left]; exact ha
theorem step_p {p B z : Int} (hp : p ∈ primesL) (hB : B % p ≠ 0) (j : Nat) (hj : 1 ≤ j) (h2 : p = 2 → 2 ≤ j) : ∃ g, Gm (B + p ^ j * z) B p.toNat = p * g ∧ g % p ≠ 0 := by
  have hpb := primesL_le p hp
  by_cases h : p = 2
  · subst h
    obtain ⟨i, rfl⟩ : ∃ i, j = i + 2 := ⟨j - 2, by have := h2 rfl; omega⟩
    refine ⟨B + 2 * (2 ^ i * z), ?_, ne_add hB⟩
    have e : (2 : Int) ^ (i + 2) = 4 * 2 ^ i := by rw [Int.pow_succ, Int.pow_succ]; grind
    rw [e]
    show (B + 4 * 2 ^ i * z) ^ 1 + B * ((B + 4 * 2 ^ i * z) ^ 0 + B * 0) = _
    rw [Int.pow_zero, Int.pow_succ, Int.pow_zero]
    grind
  · obtain ⟨n, hn⟩ : ∃ n, p.toNat = n + 2 := ⟨p.toNat - 2, by omega⟩
    obtain ⟨i, rfl⟩ : ∃ i, j = i + 1 := ⟨j - 1, by omega⟩
    obtain ⟨d, hd⟩ : ∃ d, d = p ^ i * z := ⟨_, rfl⟩
    have eD : p ^ (i + 1) * z = p * d := by rw [hd, Int.pow_succ]; grind
    obtain ⟨w, hw⟩ := Gm_mod2 B (p * d) n
    have ep : (n : Int) + 2 = p := by omega
    rw [ep] at hw
    have e1 : 2 * Gm (B + p * d) B (n + 2) = p * (2 * B ^ (n + 1) + p * ((n + 1) * d * B ^ n + 2 * d * d * w)) := by rw [hw]; grind
    have c2 : (2 : Int) % p ≠ 0 := by rw [Int.emod_eq_of_lt (by omega) (by omega)]; omega
    have dv : p ∣ Gm (B + p * d) B (n + 2) := dvd_cop (x := 2) ⟨_, e1⟩ (by
      have := prime_gcd hp c2 1
      rw [Int.pow_one, Int.gcd_comm] at this
      exact this)
    obtain ⟨g, hg⟩ := dv
    refine ⟨g, by rw [eD, hn]; exact hg, fun k => ?_⟩
    have e2 : 2 * g = 2 * B ^ (n + 1) + p * ((n + 1) * d * B ^ n + 2 * d * d * w) := by
      have : p * (2 * g) = p * (2 * B ^ (n + 1) + p * ((n + 1) * d * B ^ n + 2 * d * d * w)) := by rw [← e1, hg]; grind
      exact Int.eq_of_mul_eq_mul_left (by omega) this
    have e3 := ne_add (p := p) (b := (n + 1) * d * B ^ n + 2 * d * d * w) (prime_mulI hp c2 (pow_ne hp hB (n + 1)))
    rw [← e2, Int.mul_emod, k, Int.mul_zero, Int.zero_emod] at e3
    exact e3 rfl
theorem lte_t {p B : Int} (hp : p ∈ primesL) (hB : B % p ≠ 0) (j : Nat) (y : Int) (hj : 1 ≤ j) (h2 : p = 2 → 2 ≤ j) : ∀ t : Nat, ∃ y', (B + p ^ j * y) ^ (p.toNat ^ t) = B ^ (p.toNat ^ t) + p ^ (j + t) * y' ∧ (y % p ≠ 0 → y' % p ≠ 0)
  | 0 => ⟨y, by simp [Int.pow_succ], fun h => h⟩
  | t + 1 => by
    obtain ⟨y', e, h⟩ := lte_t hp hB j y hj h2 t
    have hB1 := pow_ne hp hB (p.toNat ^ t)
    obtain ⟨g, g1, g2⟩ := step_p (z := y') hp hB1 (j + t) (by omega) (fun k => by have := h2 k; omega)
    have q := Gm_eq (B ^ (p.toNat ^ t) + p ^ (j + t) * y') (B ^ (p.toNat ^ t)) p.toNat
    refine ⟨y' * g, ?_, fun k => prime_mulI hp (h k) g2⟩
    rw [Nat.pow_succ, Int.pow_mul, Int.pow_mul, e, q, g1, show j + (t + 1) = j + t + 1 by omega, Int.pow_succ]
    grind
end PM
namespace PM
open PySem PySem.Spec L2 PL
open PyProof.Rows hiding St
end PM
set_option Elab.async false
set_option linter.all false
set_option maxRecDepth 100000
set_option autoImplicit false
set_option exponentiation.threshold 20000
namespace PM
open PySem PySem.Spec L2 PL
open PyProof.Rows hiding St
end PM
set_option Elab.async false
set_option linter.all false
set_option maxRecDepth 100000
set_option autoImplicit false
set_option exponentiation.threshold 20000
namespace PM
open PySem PySem.Spec L2 PL
open PyProof.Rows hiding St
theorem stpN {c k : Rho → Out} {ρ ρ' : Rho} {r : R PV} (h : c ρ = .next ρ') (g : (k ρ').res = r) : (bSeq c k ρ).res = r := by
  rw [bSeq_eq, h, then_next]; exact g
theorem rngL_step (a : Int) (m : Nat) : rngL a (m + 1) = .int a :: rngL (a + 1) m := by
  unfold rngL
  rw [List.range_succ_eq_map, List.map_cons, List.map_map]
  congr 1
  · simp
  · apply List.map_congr_left
    intro x _
    simp only [Function.comp]
    congr 1
    omega
end PM
set_option Elab.async false
set_option linter.all false
set_option maxRecDepth 100000
set_option autoImplicit false
set_option exponentiation.threshold 20000
namespace PM
open PySem PySem.Spec L2 PL
open PyProof.Rows hiding St
end PM
set_option Elab.async false
set_option linter.all false
set_option maxRecDepth 100000
set_option autoImplicit false
set_option exponentiation.threshold 20000
namespace PM
open PySem PySem.Spec L2 PL
open PyProof.Rows hiding St
end PM
set_option Elab.async false
set_option linter.all false
set_option maxRecDepth 100000
set_option autoImplicit false
set_option exponentiation.threshold 20000
namespace PM
open PySem PySem.Spec L2 PL
open PyProof.Rows hiding St
@[simp] theorem sMut0_eq {i : Nat} {g : List PV → R (List PV)} {ρ : Rho} : sMut0 i g ρ = onOwn (getOwn ρ i) fun ps => R.own (g ps) ρ i := by
  unfold sMut0 getOwn
  cases ρ[i]? with
  | none => rfl
  | some t => cases t <;> rfl
@[simp] theorem clearP_eq {ps : List PV} : clearP ps = .ok [] := nr rfl
def onSome {α : Type} (o : Option α) (k : α → Out) : Out := match o with
  | some a => k a
  | none => .stuck
@[simp] theorem onSome_some {α : Type} {a : α} {k : α → Out} : onSome (some a) k = k a := nr rfl
@[simp] theorem sAugI_eq {i : Nat} {fi f : Rho → R PV} {ρ : Rho} : sAugI i fi f ρ = onOwn (getOwn ρ i) fun ps => (fi ρ).st ρ fun q => onSome (getN ps q) fun x => (f ρ).st ρ fun y => R.own (augN ps q x y) ρ i := by
  unfold sAugI getOwn
  cases ρ[i]? with
  | none => rfl
  | some t => cases t with
    | own ps =>
      dsimp only [onOwn, sE]
      cases fi ρ with
      | stuck => rfl
      | exc c => rfl
      | ok q =>
        dsimp only [R.st]
        cases getN ps q with
        | none => rfl
        | some x =>
          dsimp only [onSome, sE]
          cases f ρ <;> rfl
    | _ => rfl
theorem getN_ints {ns : List Int} {k : Int} (h0 : 0 ≤ k) (h1 : k < ns.length) (h2 : ns.length ≤ 1000000) : getN (ns.map PV.int) (.int k) = some (.int (ns.getD k.toNat 0)) := by
  unfold getN
  dsimp only
  rw [if_pos ⟨h0, by omega⟩, List.getElem?_map, List.getElem?_eq_getElem (by omega), List.getD_eq_getElem?_getD, List.getElem?_eq_getElem (by omega)]
  rfl
theorem augN_ints {ns : List Int} {k a b : Int} (h0 : 0 ≤ k) (h1 : k < ns.length) : augN (ns.map PV.int) (.int k) (.int a) (.int b) = .ok ((ns.set k.toNat (a + b)).map PV.int) := by
  have e : ixN (ns.map PV.int).length k = some k.toNat := by
    unfold ixN
    rw [if_pos h0, List.length_map, if_pos h1]
  unfold augN
  dsimp only
  rw [e]
  dsimp only
  rw [List.map_set]
end PM
set_option Elab.async false
set_option linter.all false
set_option maxRecDepth 100000
set_option autoImplicit false
set_option exponentiation.threshold 20000
namespace PM
open PySem PySem.Spec L2 PL
open PyProof.Rows hiding St
mutual
theorem eqV_self : ∀ (n : Nat) (p : PV), okD n p = true → eqV' p p = true
  | _, .non, _ => rfl
  | _, .bl b, _ => by simp [eqV']
  | _, .int i, _ => by simp [eqV']
  | _, .str s, _ => by simp [eqV']
  | 0, .tup l, h => by simp [okD] at h
  | n + 1, .tup l, h => by rw [eqV']; exact eqVs_self n l (by simpa [okD] using h)
  | 0, .lst l, h => by simp [okD] at h
  | n + 1, .lst l, h => by rw [eqV']; exact eqVs_self n l (by simpa [okD] using h)
  | 0, .frz l, h => by simp [okD] at h
  | n + 1, .frz l, h => by rw [eqV']; exact eqVs_self n l (by simpa [okD] using h)
  | n, .dct, h => by cases n <;> simp [okD] at h
theorem eqVs_self : ∀ (n : Nat) (l : List PV), (∀ x ∈ l, okD n x = true) → eqVs l l = true
  | _, [], _ => by rw [eqVs]
  | n, p :: l, h => by rw [eqVs, eqV_self n p (h p List.mem_cons_self), eqVs_self n l fun x hx => h x (List.mem_cons_of_mem _ hx)]; rfl
end
theorem eqP_self {p : PV} (h : okD 30 p = true) : eqP p p = .ok (.bl true) := by rw [eqP_ok h h, eqV_self 30 p h]
theorem neP_self {p : PV} (h : okD 30 p = true) : neP p p = .ok (.bl false) := by rw [neP_ok h h, eqV_self 30 p h]; rfl
theorem ixP_neg {l : List PV} {x : PV} {k : Nat} (hk : 1 ≤ k) (h : k ≤ l.length) (hx : l[l.length - k]? = some x) : ixP (.lst l) (.int (-(k : Int))) = .ok x := by
  have e : atI l (-(k : Int)) = some x := by
    unfold atI ixN
    rw [if_neg (by omega), if_pos (by omega), Option.bind_some, show (-(k : Int) + l.length).toNat = l.length - k by omega, hx]
  unfold ixP
  dsimp only
  rw [e]
theorem ixP_last (l : List PV) (x : PV) : ixP (.lst (l ++ [x])) (.int (-1)) = .ok x := ixP_neg (k := 1) (by omega) (by simp) (by simp)
def PolyI (as : List Int) : Prop := 2 ≤ as.length ∧ as.length ≤ 9 ∧ as.getLast? ≠ some 0
theorem whole_lc (as : List Int) (x : PV) : lcGo (gN 1) cYes (eD F_is_whole (aCons (eV 1) aNil)) [.val x, .un] (as.map PV.int) = .ok ((as.map fun _ => true).map PV.bl) := by
  rw [show (as.map fun _ => true).map PV.bl = (as.map PV.int).map fun _ => PV.bl true by simp]
  refine lcGo_map _ _ fun q hq => ⟨_, rfl, ?_⟩
  obtain ⟨d, _, rfl⟩ := List.mem_map.mp hq
  simp [f_is_whole, isW]
theorem f_is_poly_i (as : List Int) (h2 : 2 ≤ as.length) (h9 : as.length ≤ 9) : F_is_poly [.lst (as.map PV.int)] = .ok (.bl (decide (as.getLast? ≠ some 0))) := by
  refine (runF_eq (n := 2) (u := D_is_poly)).trans ?_
  show (D_is_poly [.val (.lst (as.map PV.int)), .un]).res = _
  have ln : lenP [.lst (as.map PV.int)] = .ok (.int as.length) := by simp
  have il : isiP "list" (.lst (as.map PV.int)) = .ok (.bl true) := by
    have e : kitB "list" "list" = some true := by decide +kernel
    unfold isiP tyN
    rw [e]
  have L := eLc_ok (vs := [1]) (it := iS (eV 0)) (ρ := [.val (.lst (as.map PV.int)), .un]) (items := as.map PV.int) rfl (by simp) (by simp; omega) (whole_lc as (.lst (as.map PV.int)))
  have al : allP [.lst ((as.map fun _ => true).map PV.bl)] = .ok (.bl true) := by rw [allP_bl, show (as.map fun _ => true).all id = true by simp]
  obtain ⟨l, x, rfl⟩ : ∃ l x, as = l ++ [x] := ⟨as.dropLast, as.getLast (by intro z; rw [z] at h2; simp at h2), (List.dropLast_concat_getLast _).symm⟩
  have lx : ixP (.lst ((l ++ [x]).map PV.int)) (.int (-1)) = .ok (.int x) := by rw [List.map_append]; exact ixP_last _ _
  have c1 : ¬ (((l ++ [x]).length : Int) < 2) := by omega
  have c2 : ¬ ((9 : Int) < ((l ++ [x]).length : Int)) := by omega
  unfold D_is_poly
  refine skp (by simp only [tOr_eq, tNt_eq, tB1_eq, e1_eq, e2_eq, eD_eq, aCons_eq, aNil_eq, eC_eq, eVo0, bind1, il, ln, asB_eq, Bool.not_true, if_neg Bool.false_ne_true, ltP_ii, gtP_ii, decide_eq_false c1, gt_iff_lt, decide_eq_false c2]) ?_
  simp only [bSeq_eq, sRet_eq, eAn_eq, eD_eq, aCons_eq, aNil_eq, L, bind1, al, asB_eq, if_true, e2_eq, e1_eq, eC_eq, eVo0, negP_eq, lx, neP_ii, st_ok, then_ret, res_ret]
  congr 2
  rw [List.getLast?_append]
  simp [bne]
  rw [Bool.eq_iff_iff, beq_iff_eq, decide_eq_true_eq]
theorem f_is_poly_ok {as : List Int} (h : PolyI as) : F_is_poly [.lst (as.map PV.int)] = .ok (.bl true) := by rw [f_is_poly_i as h.1 h.2.1, decide_eq_true h.2.2]
theorem f_want_poly_ok {x : PV} (h : F_is_poly [x] = .ok (.bl true)) : F_want_poly [x] = .ok .non := by
  refine (runF_eq (n := 1) (u := D_want_poly)).trans ?_
  show (D_want_poly [.val x]).res = _
  simp [D_want_poly, h]
theorem f_want_poly_no {x : PV} (h : F_is_poly [x] = .ok (.bl false)) : F_want_poly [x] = .exc "NoPolynomial" := by
  refine (runF_eq (n := 1) (u := D_want_poly)).trans ?_
  show (D_want_poly [.val x]).res = _
  simp [D_want_poly, h]
theorem enum_len (as : List Int) (n : Nat) : (enumL n (as.map PV.int)).length = as.length := by rw [enumL_len, List.length_map]
end PM
set_option Elab.async false
set_option linter.all false
set_option maxRecDepth 100000
set_option autoImplicit false
set_option exponentiation.threshold 20000
namespace PM
open PySem PySem.Spec L2 PL
open PyProof.Rows hiding St
theorem sqN {c k : Rho → Out} {ρ ρ' : Rho} {o : Out} (h : c ρ = .next ρ') (g : k ρ' = o) : bSeq c k ρ = o := by rw [bSeq_eq, h, then_next]; exact g
theorem sqS {i : Nat} {f : Rho → R PV} {k : Rho → Out} {ρ : Rho} (p : PV) {o : Out} (h : f ρ = .ok p) (g : k (ρ.set i (.val p)) = o) : bSeq (sSet i f) k ρ = o := sqN (by rw [sSet_eq, h, st_ok]) g
theorem sqK {t : Rho → R Bool} {u k : Rho → Out} {ρ : Rho} {o : Out} (h : t ρ = .ok false) (g : k ρ = o) : bSeq (sIf t u bNil) k ρ = o := sqN (by rw [sIf_eq, h, stB_ok, if_neg Bool.false_ne_true, bNil_eq]) g
theorem sqF {it : Rho → R (List PV)} {tgt : PV → Rho → Option Rho} {body k : Rho → Out} {ρ ρ' : Rho} {o : Out} (items : List PV) (hi : it ρ = .ok items) (hf : forL tgt body items ρ = .next ρ') (g : k ρ' = o) : bSeq (sFor it tgt body) k ρ = o := sqN (by rw [sFor_eq, hi, stL_ok, hf]) g
end PM
set_option Elab.async false
set_option linter.all false
set_option maxRecDepth 100000
set_option autoImplicit false
set_option exponentiation.threshold 20000
namespace PM
open PySem PySem.Spec L2 PL
open PyProof.Rows hiding St
noncomputable def vn (p : Int) (n : Nat) : Nat := (vp p n).toNat
theorem vn_spec {p : Int} (hp : 2 ≤ p) {n : Nat} (hn : 1 ≤ n) : ∃ m : Int, (n : Int) = m * p ^ vn p n ∧ m % p ≠ 0 ∧ 1 ≤ m ∧ vp p n = vn p n := by
  obtain ⟨m, v, h1, h2, h3⟩ := vp_spec hp (show (n : Int) ≠ 0 by omega)
  have e : vn p n = v := by unfold vn; rw [h3]; rfl
  have P : 0 < p ^ v := Int.pow_pos (by omega)
  refine ⟨m, by rw [e]; exact h1, h2, ?_, by rw [e]; exact h3⟩
  rcases Int.lt_or_le m 1 with g | g
  · have := Int.mul_le_mul_of_nonneg_right (show m ≤ 0 by omega) (show 0 ≤ p ^ v by omega)
    rw [Int.zero_mul] at this
    omega
  · exact g
theorem vn_uniq {p m : Int} {n v : Nat} (hp : 2 ≤ p) (hn : 1 ≤ n) (h : (n : Int) = m * p ^ v) (hm : m % p ≠ 0) : vn p n = v := by
  obtain ⟨m', h1, h2, _, _⟩ := vn_spec hp hn
  exact (vp_uniq hp (h.symm.trans h1) hm h2).symm
theorem vn_zero {p : Int} {n : Nat} (hp : 2 ≤ p) (hn : 1 ≤ n) (h : (n : Int) % p ≠ 0) : vn p n = 0 := vn_uniq (m := n) hp hn (by simp) h
/-- the figures' sum by a prime: what the factorials lack -/
def dsum (p : Nat) : Nat → Nat → Nat
  | 0, _ => 0
  | f + 1, n => n % p + dsum p f (n / p)
noncomputable def wf (p : Int) : Nat → Nat
  | 0 => 0
  | n + 1 => wf p n + vn p (n + 1)
theorem dsum_0 (p : Nat) : ∀ f : Nat, dsum p f 0 = 0
  | 0 => rfl
  | f + 1 => by rw [dsum, Nat.zero_mod, Nat.zero_div, Nat.zero_add, dsum_0 p f]
theorem dsum_fuel {p : Nat} (hp : 2 ≤ p) : ∀ (f g n : Nat), n ≤ f → n ≤ g → dsum p f n = dsum p g n
  | 0, g, n, h, _ => by
    have e : n = 0 := by omega
    subst e
    rw [dsum_0, dsum_0]
  | f + 1, 0, n, _, h => by
    have e : n = 0 := by omega
    subst e
    rw [dsum_0, dsum_0]
  | f + 1, g + 1, n, h1, h2 => by
    rw [dsum, dsum]
    have : n / p ≤ n / 2 := Nat.div_le_div_left hp (by omega)
    rw [dsum_fuel hp f g (n / p) (by omega) (by omega)]
theorem vn_dsum {p : Nat} (hp : 2 ≤ p) : ∀ (f n : Nat), n + 1 ≤ f → (p - 1) * vn p (n + 1) + dsum p f (n + 1) = 1 + dsum p f n
  | 0, _, h => by omega
  | f + 1, n, h => by
    by_cases c : (n + 1) % p = 0
    · obtain ⟨j, hj⟩ : ∃ j, n + 1 = p * j := ⟨(n + 1) / p, by have := Nat.div_add_mod (n + 1) p; omega⟩
      have j0 : j ≠ 0 := fun z => by rw [z] at hj; omega
      obtain ⟨i, rfl⟩ : ∃ i, j = i + 1 := ⟨j - 1, by omega⟩
      have hn : n = p * i + (p - 1) := by rw [Nat.mul_add] at hj; omega
      have d1 : (n + 1) / p = i + 1 := by rw [hj]; exact Nat.mul_div_cancel_left _ (by omega)
      have d2 : n / p = i := by rw [hn, Nat.mul_add_div (by omega), Nat.div_eq_of_lt (by omega)]; omega
      have m2 : n % p = p - 1 := by rw [hn, Nat.mul_add_mod, Nat.mod_eq_of_lt (by omega)]
      have il : i + 1 ≤ f := by
        have : 2 * (i + 1) ≤ p * (i + 1) := Nat.mul_le_mul_right _ hp
        omega
      have ih := vn_dsum hp f i il
      obtain ⟨m, h1, h2, _, _⟩ := vn_spec (p := (p : Int)) (by omega) (show 1 ≤ i + 1 by omega)
      have e : vn p (n + 1) = vn p (i + 1) + 1 := vn_uniq (m := m) (by omega) (by omega) (by rw [hj, Int.natCast_mul, h1, Int.pow_succ]; grind) h2
      rw [dsum, dsum, c, d1, d2, m2, e, Nat.mul_add]
      omega
    · have hv : vn p (n + 1) = 0 := vn_zero (by omega) (by omega) (by omega)
      have hp0 : 0 < p := by omega
      have dm := Nat.div_add_mod n p
      have lt := Nat.mod_lt n hp0
      have e1 : n % p + 1 < p := by
        rcases Nat.lt_or_ge (n % p + 1) p with g | g
        · exact g
        · exfalso
          have : n + 1 = p * (n / p + 1) := by rw [Nat.mul_add]; omega
          rw [this] at c
          exact c (Nat.mul_mod_right _ _)
      have e2 : n + 1 = p * (n / p) + (n % p + 1) := by omega
      have d1 : (n + 1) / p = n / p := by
        conv => lhs; rw [e2]
        rw [Nat.mul_add_div hp0, Nat.div_eq_of_lt e1]; omega
      have d2 : (n + 1) % p = n % p + 1 := by
        conv => lhs; rw [e2]
        rw [Nat.mul_add_mod, Nat.mod_eq_of_lt e1]
      rw [dsum, dsum, hv, d1, d2]
      omega
theorem wf_dsum {p : Nat} (hp : 2 ≤ p) (f : Nat) : ∀ n : Nat, n ≤ f → (p - 1) * wf p n + dsum p f n = n
  | 0, _ => by
    have := dsum_fuel hp f 0 0 (by omega) (by omega)
    rw [wf, Nat.mul_zero, this]; rfl
  | n + 1, h => by
    have ih := wf_dsum hp f n (by omega)
    have s := vn_dsum hp f n h
    rw [wf, Nat.mul_add]
    omega
theorem dsum_pos {p : Nat} (hp : 2 ≤ p) : ∀ (f n : Nat), n ≤ f → 1 ≤ n → 1 ≤ dsum p f n
  | 0, n, h, h2 => by omega
  | f + 1, n, h, h2 => by
    rw [dsum]
    by_cases c : n % p = 0
    · have : n / p ≤ n / 2 := Nat.div_le_div_left hp (by omega)
      have d := Nat.div_add_mod n p
      have : 1 ≤ n / p := by
        rcases Nat.eq_zero_or_pos (n / p) with g | g
        · rw [g] at d; omega
        · exact g
      have := dsum_pos hp f (n / p) (by omega) this
      omega
    · omega
theorem wf_lt {p : Int} (hp : 2 ≤ p) (n : Nat) (hn : 1 ≤ n) : (p - 1) * (wf p n : Int) ≤ n - 1 := by
  obtain ⟨q, rfl⟩ : ∃ q : Nat, p = q := ⟨p.toNat, by omega⟩
  have h1 := wf_dsum (p := q) (by omega) n n (Nat.le_refl _)
  have h2 := dsum_pos (p := q) (by omega) n n (Nat.le_refl _) hn
  have e : ((q - 1 : Nat) : Int) = (q : Int) - 1 := by omega
  have h3 : ((q - 1 : Nat) : Int) * (wf q n : Int) = (((q - 1) * wf q n : Nat) : Int) := by rw [Int.natCast_mul]
  rw [← e, h3]
  omega
theorem wf_le {p : Int} (hp : 2 ≤ p) (n : Nat) (hn : 1 ≤ n) : wf p n + 1 ≤ n := by
  have h := wf_lt hp n hn
  have : 1 * (wf p n : Int) ≤ (p - 1) * (wf p n : Int) := Int.mul_le_mul_of_nonneg_right (by omega) (by omega)
  omega
end PM
set_option Elab.async false
set_option linter.all false
set_option maxRecDepth 100000
set_option autoImplicit false
set_option exponentiation.threshold 20000
namespace PM
open PySem PySem.Spec L2 PL
open PyProof.Rows hiding St
theorem mo_iff {m x y : Int} : Mo m x y ↔ m ∣ x - y := by
  constructor
  · rintro ⟨z, h⟩; exact ⟨z, by omega⟩
  · rintro ⟨z, h⟩; exact ⟨z, by omega⟩
theorem Mo.canc {p m a b : Int} (hp : p ∈ primesL) (hm : m % p ≠ 0) {E v : Nat} (h : Mo (p ^ (E + v)) (m * p ^ v * a) (m * p ^ v * b)) : Mo (p ^ E) a b := by
  have hpb := primesL_le p hp
  have P : p ^ v ≠ 0 := Int.pow_ne_zero (by omega)
  rw [mo_iff] at h ⊢
  obtain ⟨z, hz⟩ := h
  have e : m * (a - b) = p ^ E * z := by
    rw [Int.pow_add] at hz
    refine Int.eq_of_mul_eq_mul_left P ?_
    grind
  have g : Int.gcd (p ^ E) m = 1 := by rw [Int.gcd_comm]; exact prime_gcd hp hm E
  have d : (p ^ E).natAbs ∣ m.natAbs * (a - b).natAbs := by rw [← Int.natAbs_mul]; exact Int.natAbs_dvd_natAbs.mpr ⟨z, e⟩
  exact Int.natAbs_dvd_natAbs.mp (Nat.Coprime.dvd_of_dvd_mul_left g d)
theorem pow_mo0 {p x : Int} {s : Nat} (h : Mo (p ^ s) x 0) (k : Nat) : Mo (p ^ (s * k)) (x ^ k) 0 := by
  obtain ⟨z, hz⟩ := h
  refine ⟨z ^ k, ?_⟩
  rw [hz, Int.zero_add, Int.mul_pow, Int.pow_mul, Int.zero_add]
def fac : Nat → Int
  | 0 => 1
  | n + 1 => fac n * ((n + 1 : Nat) : Int)
noncomputable def mfc (p : Int) : Nat → Int
  | 0 => 1
  | n + 1 => mfc p n * (((n + 1 : Nat) : Int) / p ^ vn p (n + 1))
theorem vn_div {p : Int} (hp : 2 ≤ p) {n : Nat} (hn : 1 ≤ n) : (n : Int) = (n : Int) / p ^ vn p n * p ^ vn p n ∧ ((n : Int) / p ^ vn p n) % p ≠ 0 ∧ 1 ≤ (n : Int) / p ^ vn p n ∧ (n : Int) / p ^ vn p n ≤ n := by
  obtain ⟨m, h1, h2, h3, _⟩ := vn_spec hp hn
  have P : 0 < p ^ vn p n := Int.pow_pos (by omega)
  have e : (n : Int) / p ^ vn p n = m := by
    conv => lhs; rw [h1]
    exact Int.mul_ediv_cancel _ (by omega)
  rw [e]
  refine ⟨h1, h2, h3, ?_⟩
  have := Int.mul_le_mul_of_nonneg_left (show 1 ≤ p ^ vn p n by omega) (show 0 ≤ m by omega)
  omega
theorem mfc_spec {p : Int} (hp : p ∈ primesL) : ∀ n : Nat, fac n = mfc p n * p ^ wf p n ∧ mfc p n % p ≠ 0
  | 0 => by
    have hpb := primesL_le p hp
    refine ⟨by simp [fac, mfc, wf], ?_⟩
    rw [mfc, Int.emod_eq_of_lt (by omega) (by omega)]; decide
  | n + 1 => by
    have hpb := primesL_le p hp
    obtain ⟨h1, h2⟩ := mfc_spec hp n
    obtain ⟨g1, g2, _⟩ := vn_div hpb.1 (show 1 ≤ n + 1 by omega)
    refine ⟨?_, prime_mulI hp h2 g2⟩
    rw [fac, h1, mfc, wf, Int.pow_add]
    conv => lhs; rw [g1]
    grind
def sms (q : Nat → Int) : Nat → Int
  | 0 => q 0
  | n + 1 => sms q n + q (n + 1)
def LgQ (p : Int) (E : Nat) (x : Int) (q : Nat → Int) (N : Nat) : Prop := ∀ k : Nat, 1 ≤ k → k ≤ N → Mo (p ^ (E + vn p k)) (k * q k) (x ^ k)
def ExQ (p : Int) (E : Nat) (x : Int) (q : Nat → Int) (N : Nat) : Prop := ∀ k : Nat, k ≤ N → Mo (p ^ (E + wf p k)) (fac k * q k) (x ^ k)
noncomputable def trn (a w : Int) : Int := match F_turned [.int a, .int w] with | .ok (.int z) => z | _ => 0
noncomputable def ep (p : Int) (n : Nat) (u : Int) : Nat → Int
  | 0 => 1
  | k + 1 => ep p n u k * u * trn (((k + 1 : Nat) : Int) / p ^ vn p (k + 1)) (p ^ n) % p ^ n
noncomputable def er (p : Int) (s k : Nat) : Nat := k * s - wf p k
noncomputable def ee (p : Int) (n : Nat) (u : Int) (s : Nat) (k : Nat) : Int := if k = 0 then 1 else if er p s k < n then ep p n u k * p ^ er p s k else 0
end PM
set_option Elab.async false
set_option linter.all false
set_option maxRecDepth 100000
set_option autoImplicit false
set_option exponentiation.threshold 20000
namespace PM
theorem Mo.zero {m x : Int} (z : Int) (h : x = m * z) : Mo m x 0 := ⟨z, by rw [h, Int.zero_add]⟩
theorem Mo.scaleP {p X Y c : Int} {a b : Nat} (h : Mo (p ^ a) X Y) (hc : Mo (p ^ b) c 0) : Mo (p ^ (a + b)) (X * c) (Y * c) := by
  obtain ⟨z, hz⟩ := h
  obtain ⟨w, hw⟩ := hc
  exact ⟨z * w, by rw [hz, hw, Int.pow_add]; grind⟩
theorem Mo.zeroP {p X c : Int} {a b : Nat} (h : Mo (p ^ a) X 0) (hc : Mo (p ^ b) c 0) : Mo (p ^ (a + b)) (X * c) 0 := by
  have := Mo.scaleP h hc
  rwa [Int.zero_mul] at this
theorem Mo.zero_mul {m X : Int} (c : Int) (h : Mo m X 0) : Mo m (X * c) 0 := by
  obtain ⟨z, hz⟩ := h
  exact ⟨z * c, by rw [hz]; grind⟩
theorem sms_tail {W : Int} {q : Nat → Int} {M : Nat} : ∀ N : Nat, M ≤ N → (∀ k, M < k → k ≤ N → Mo W (q k) 0) → Mo W (sms q N) (sms q M)
  | 0, h, _ => by
    have e : M = 0 := by omega
    subst e; exact .refl _ _
  | N + 1, h, t => by
    by_cases e : M = N + 1
    · subst e; exact .refl _ _
    · have ih := sms_tail N (by omega) fun k h1 h2 => t k h1 (by omega)
      rw [sms]
      exact (ih.add (t (N + 1) (by omega) (by omega))).trans (.of_eq (Int.add_zero _))
section
variable {p x : Int} {E : Nat}
theorem ex_tail (hp : p ∈ primesL) {e : Nat → Int} {N s k : Nat} (h : ExQ p E x e N) (hx : Mo (p ^ s) x 0) (hN : k ≤ N) (hs : E + wf p k ≤ s * k) : Mo (p ^ E) (e k) 0 := by
  obtain ⟨f1, f2⟩ := mfc_spec hp k
  have a := (h k hN).trans ((pow_mo0 hx k).low hs)
  refine Mo.canc hp f2 (v := wf p k) ?_
  rw [← f1, Int.mul_zero]; exact a
end
theorem LgQ.low {p x : Int} {E F N : Nat} {q : Nat → Int} (h : LgQ p E x q N) (hF : F ≤ E) : LgQ p F x q N := fun k h1 h2 => (h k h1 h2).low (by omega)
theorem ExQ.low {p x : Int} {E F N : Nat} {q : Nat → Int} (h : ExQ p E x q N) (hF : F ≤ E) : ExQ p F x q N := fun k h2 => (h k h2).low (by omega)
end PM
set_option Elab.async false
set_option linter.all false
set_option maxRecDepth 100000
set_option autoImplicit false
set_option exponentiation.threshold 20000
namespace PM
def cb : Nat → Nat → Int
  | _, 0 => 1
  | 0, _ + 1 => 0
  | n + 1, k + 1 => cb n k + cb n (k + 1)
theorem cb_zero (n : Nat) : cb n 0 = 1 := by cases n <;> rfl
theorem cb_step (n k : Nat) : cb (n + 1) (k + 1) = cb n k + cb n (k + 1) := rfl
theorem cb_abs : ∀ n k : Nat, ((k + 1 : Nat) : Int) * cb (n + 1) (k + 1) = ((n + 1 : Nat) : Int) * cb n k
  | 0, 0 => by rw [cb_step, cb_zero]; rfl
  | 0, k + 1 => by rw [cb_step]; show ((k + 1 + 1 : Nat) : Int) * (0 + 0) = ((0 + 1 : Nat) : Int) * 0; omega
  | n + 1, 0 => by
    have h := cb_abs n 0
    rw [cb_step (n + 1) 0, cb_zero]
    rw [cb_zero] at h
    have e : ((0 + 1 : Nat) : Int) = 1 := rfl
    rw [e] at h ⊢
    have e2 : ((n + 1 + 1 : Nat) : Int) = ((n + 1 : Nat) : Int) + 1 := by omega
    rw [e2]
    grind
  | n + 1, k + 1 => by
    have h1 := cb_abs n (k + 1)
    have h0 := cb_abs n k
    have s := cb_step (n + 1) (k + 1)
    have t := cb_step n k
    have e1 : ((k + 1 + 1 : Nat) : Int) = ((k + 1 : Nat) : Int) + 1 := by omega
    have e2 : ((n + 1 + 1 : Nat) : Int) = ((n + 1 : Nat) : Int) + 1 := by omega
    rw [e1] at h1
    rw [s, e1, e2]
    obtain ⟨a, ha⟩ : ∃ a, a = ((k + 1 : Nat) : Int) := ⟨_, rfl⟩
    obtain ⟨b, hb⟩ : ∃ b, b = ((n + 1 : Nat) : Int) := ⟨_, rfl⟩
    rw [← ha, ← hb] at h1 h0 ⊢
    grind
theorem cb_big : ∀ n k : Nat, n < k → cb n k = 0
  | _, 0, h => by omega
  | 0, k + 1, _ => rfl
  | n + 1, k + 1, h => by rw [cb_step, cb_big n k (by omega), cb_big n (k + 1) (by omega)]; rfl
def Lg (p : Int) (E : Nat) (x T : Int) : Prop := ∃ K0 : Nat, ∀ K : Nat, K0 ≤ K → Mo (p ^ (E + K)) (p ^ K * T) ((1 + x) ^ (p.toNat ^ K) - 1)
theorem Lg.low {p x T : Int} {E F : Nat} (h : Lg p E x T) (hF : F ≤ E) : Lg p F x T := by
  obtain ⟨K0, h⟩ := h
  exact ⟨K0, fun K hK => (h K hK).low (by omega)⟩
theorem Lg.mul {p x y T S : Int} {E : Nat} (h : Lg p E x T) (g : Lg p E y S) : Lg p E (x + y + x * y) (T + S) := by
  obtain ⟨K0, h⟩ := h
  obtain ⟨K1, g⟩ := g
  refine ⟨E + K0 + K1, fun K hK => ?_⟩
  have h := h K (by omega)
  have g := g K (by omega)
  obtain ⟨X, hX⟩ : ∃ X, X = (1 + x) ^ (p.toNat ^ K) - 1 := ⟨_, rfl⟩
  obtain ⟨Y, hY⟩ : ∃ Y, Y = (1 + y) ^ (p.toNat ^ K) - 1 := ⟨_, rfl⟩
  have e : (1 + (x + y + x * y)) ^ (p.toNat ^ K) - 1 = X + Y + X * Y := by
    have e1 : 1 + (x + y + x * y) = (1 + x) * (1 + y) := by grind
    rw [e1, Int.mul_pow, hX, hY]
    grind
  rw [← hX] at h
  rw [← hY] at g
  rw [e]
  have z : Mo (p ^ (E + K)) (X * Y) 0 := by
    have x0 : Mo (p ^ K) X 0 := (h.symm.low (by omega)).trans (Mo.zero T rfl)
    have y0 : Mo (p ^ K) Y 0 := (g.symm.low (by omega)).trans (Mo.zero S rfl)
    exact (Mo.zeroP x0 y0).low (by omega)
  have s := (h.add g).add z.symm
  exact (Mo.of_eq (by grind)).trans s
end PM
set_option Elab.async false
set_option linter.all false
set_option maxRecDepth 100000
set_option autoImplicit false
set_option exponentiation.threshold 20000
namespace PM
open PySem PySem.Spec L2 PL
open PyProof.Rows hiding St
theorem sms_front (f : Nat → Int) : ∀ M : Nat, sms f (M + 1) = f 0 + sms (fun i => f (i + 1)) M
  | 0 => rfl
  | M + 1 => by
    have ih := sms_front f M
    rw [show sms f (M + 1 + 1) = sms f (M + 1) + f (M + 1 + 1) from rfl, ih]
    show f 0 + sms (fun i => f (i + 1)) M + f (M + 1 + 1) = f 0 + (sms (fun i => f (i + 1)) M + f (M + 1 + 1))
    omega
theorem sms_add (f g : Nat → Int) : ∀ M : Nat, sms (fun i => f i + g i) M = sms f M + sms g M
  | 0 => rfl
  | M + 1 => by
    have ih := sms_add f g M
    show sms (fun i => f i + g i) M + (f (M + 1) + g (M + 1)) = sms f M + f (M + 1) + (sms g M + g (M + 1))
    omega
theorem sms_mul (c : Int) (f : Nat → Int) : ∀ M : Nat, sms (fun i => c * f i) M = c * sms f M
  | 0 => rfl
  | M + 1 => by
    have ih := sms_mul c f M
    show sms (fun i => c * f i) M + c * f (M + 1) = c * (sms f M + f (M + 1))
    rw [ih]; grind
theorem sms_ext {f g : Nat → Int} : ∀ M : Nat, (∀ i, i ≤ M → f i = g i) → sms f M = sms g M
  | 0, h => h 0 (Nat.le_refl _)
  | M + 1, h => by
    rw [sms, sms, sms_ext M fun i hi => h i (by omega), h (M + 1) (Nat.le_refl _)]
theorem sms_cong {W : Int} {f g : Nat → Int} : ∀ M : Nat, (∀ i, i ≤ M → Mo W (f i) (g i)) → Mo W (sms f M) (sms g M)
  | 0, h => h 0 (Nat.le_refl _)
  | M + 1, h => (sms_cong M fun i hi => h i (by omega)).add (h (M + 1) (Nat.le_refl _))
/-- a triangle of products, by rows and by columns -/
theorem tri (e f : Nat → Int) : ∀ N : Nat, sms (fun n => sms (fun i => e i * f (n - i)) n) N = sms (fun i => e i * sms f (N - i)) N
  | 0 => rfl
  | N + 1 => by
    have ih := tri e f N
    have e1 : sms (fun n => sms (fun i => e i * f (n - i)) n) (N + 1) = sms (fun n => sms (fun i => e i * f (n - i)) n) N + sms (fun i => e i * f (N + 1 - i)) (N + 1) := rfl
    have e2 : sms (fun i => e i * f (N + 1 - i)) (N + 1) = sms (fun i => e i * f (N + 1 - i)) N + e (N + 1) * f (N + 1 - (N + 1)) := rfl
    have e3 : sms (fun i => e i * sms f (N + 1 - i)) (N + 1) = sms (fun i => e i * sms f (N + 1 - i)) N + e (N + 1) * sms f (N + 1 - (N + 1)) := rfl
    have e4 : sms (fun i => e i * sms f (N + 1 - i)) N = sms (fun i => e i * sms f (N - i) + e i * f (N + 1 - i)) N := sms_ext N fun i hi => by
      rw [show N + 1 - i = (N - i) + 1 by omega, sms]; grind
    rw [e1, ih, e2, e3, e4, sms_add, Nat.sub_self]
    show _ = _ + e (N + 1) * f 0
    omega
theorem binom2 (y w : Int) : ∀ n M : Nat, n ≤ M → sms (fun i => cb n i * y ^ i * w ^ (M - i)) M = (y + w) ^ n * w ^ (M - n)
  | 0, M, _ => by
    cases M with
    | zero => show cb 0 0 * y ^ 0 * w ^ (0 - 0) = _; simp [cb_zero]
    | succ M =>
      rw [sms_front]
      have z : sms (fun i => cb 0 (i + 1) * y ^ (i + 1) * w ^ (M + 1 - (i + 1))) M = 0 := by
        have : sms (fun i => cb 0 (i + 1) * y ^ (i + 1) * w ^ (M + 1 - (i + 1))) M = sms (fun i => 0 * (0 : Int)) M := sms_ext M fun i _ => by rw [cb_big 0 (i + 1) (by omega)]; simp
        rw [this, sms_mul, Int.zero_mul]
      rw [z, cb_zero]; simp
  | n + 1, M, h => by
    obtain ⟨m, rfl⟩ : ∃ m, M = m + 1 := ⟨M - 1, by omega⟩
    have i1 := binom2 y w n (m + 1) (by omega)
    have i2 := binom2 y w n m (by omega)
    rw [sms_front] at i1 ⊢
    have e : sms (fun i => cb (n + 1) (i + 1) * y ^ (i + 1) * w ^ (m + 1 - (i + 1))) m = sms (fun i => cb n (i + 1) * y ^ (i + 1) * w ^ (m + 1 - (i + 1)) + y * (cb n i * y ^ i * w ^ (m - i))) m := sms_ext m fun i hi => by
      rw [cb_step, show m + 1 - (i + 1) = m - i by omega, Int.pow_succ]; grind
    rw [e, sms_add, sms_mul, i2]
    rw [cb_zero] at i1 ⊢
    rw [show m + 1 - n = (m - n) + 1 by omega, Int.pow_succ] at i1
    rw [show m + 1 - (n + 1) = m - n by omega, Int.pow_succ (y + w)]
    grind
theorem cb_fac : ∀ n k : Nat, k ≤ n → cb n k * fac k * fac (n - k) = fac n
  | n, 0, _ => by rw [cb_zero, fac, Nat.sub_zero]; omega
  | 0, k + 1, h => by omega
  | n + 1, k + 1, h => by
    have ih := cb_fac n k (by omega)
    have ab := cb_abs n k
    rw [show n + 1 - (k + 1) = n - k by omega, fac, fac, ← ih]
    grind
def Nr (p y : Int) : Prop := Mo (p ^ 1) y 0 ∧ (p = 2 → Mo (p ^ 2) y 0)
theorem Nr.add {p y w : Int} (h : Nr p y) (g : Nr p w) : Nr p (y + w) := by
  refine ⟨by have := h.1.add g.1; rwa [Int.add_zero] at this, fun e => by have := (h.2 e).add (g.2 e); rwa [Int.add_zero] at this⟩
theorem half {p y : Int} (hp : p ∈ primesL) (h : Nr p y) {E a i N : Nat} {e : Nat → Int} (he : ExQ p E y e N) (hi : i ≤ N) (ha : a ≤ E) (ha2 : a ≤ (i + 1) / 2) : Mo (p ^ a) (e i) 0 := by
  have hpb := primesL_le p hp
  by_cases i0 : i = 0
  · subst i0
    have : a = 0 := by omega
    subst this
    exact ⟨e 0, by simp⟩
  · have w := wf_le hpb.1 i (by omega)
    by_cases e2 : p = 2
    · exact ex_tail hp (he.low ha) (h.2 e2) hi (by omega)
    · refine ex_tail hp (he.low ha) h.1 hi ?_
      have w2 := wf_lt hpb.1 i (by omega)
      have : 2 * (wf p i : Int) ≤ (p - 1) * (wf p i : Int) := Int.mul_le_mul_of_nonneg_right (by omega) (by omega)
      omega
theorem wf_add {p : Int} (hp : p ∈ primesL) {n i : Nat} (hi : i ≤ n) : wf p i + wf p (n - i) ≤ wf p n := by
  have hpb := primesL_le p hp
  obtain ⟨a1, a2⟩ := mfc_spec hp i
  obtain ⟨b1, b2⟩ := mfc_spec hp (n - i)
  obtain ⟨c1, c2⟩ := mfc_spec hp n
  have cf := cb_fac n i hi
  rcases Nat.lt_or_ge (wf p n) (wf p i + wf p (n - i)) with g | g
  · exfalso
    obtain ⟨d, hd⟩ : ∃ d, wf p i + wf p (n - i) = wf p n + (d + 1) := ⟨wf p i + wf p (n - i) - wf p n - 1, by omega⟩
    have e : mfc p n * p ^ wf p n = cb n i * mfc p i * mfc p (n - i) * p ^ (d + 1) * p ^ wf p n := by
      rw [← c1, ← cf, a1, b1]
      have : p ^ wf p i * p ^ wf p (n - i) = p ^ wf p n * p ^ (d + 1) := by rw [← Int.pow_add, ← Int.pow_add, hd]
      grind
    have e2 := Int.eq_of_mul_eq_mul_right (Int.pow_ne_zero (show p ≠ 0 by omega)) e
    rw [e2, Int.pow_succ, ← Int.mul_assoc, Int.mul_emod_left] at c2
    exact c2 rfl
  · exact g
theorem cb_wf {p : Int} (hp : p ∈ primesL) {n i : Nat} (hi : i ≤ n) : Mo (p ^ (wf p n - (wf p i + wf p (n - i)))) (cb n i) 0 := by
  obtain ⟨a1, a2⟩ := mfc_spec hp i
  obtain ⟨b1, b2⟩ := mfc_spec hp (n - i)
  obtain ⟨c1, c2⟩ := mfc_spec hp n
  have cf := cb_fac n i hi
  have w := wf_add hp hi
  refine Mo.canc hp (prime_mulI hp a2 b2) (v := wf p i + wf p (n - i)) ?_
  rw [show wf p n - (wf p i + wf p (n - i)) + (wf p i + wf p (n - i)) = wf p n by omega, Int.mul_zero]
  refine Mo.zero (mfc p n) ?_
  have e : mfc p i * mfc p (n - i) * p ^ (wf p i + wf p (n - i)) * cb n i = cb n i * fac i * fac (n - i) := by rw [a1, b1, Int.pow_add]; grind
  rw [e, cf, c1, Int.mul_comm]
theorem nr_wf {p y : Int} (hp : p ∈ primesL) (h : Nr p y) (i : Nat) : Mo (p ^ wf p i) (y ^ i) 0 := by
  have hpb := primesL_le p hp
  have z := pow_mo0 h.1 i
  by_cases i0 : i = 0
  · subst i0; exact ⟨y ^ 0, by simp [wf]⟩
  · have w := wf_le hpb.1 i (by omega)
    exact z.low (by omega)
theorem conv {p y w : Int} (hp : p ∈ primesL) (hy : Nr p y) (hw : Nr p w) {E N : Nat} {e f : Nat → Int} (he : ExQ p E y e N) (hf : ExQ p E w f N) : ExQ p E (y + w) (fun n => sms (fun i => e i * f (n - i)) n) N := by
  intro n hn
  have b := binom2 y w n n (Nat.le_refl _)
  rw [Nat.sub_self, Int.pow_zero, Int.mul_one] at b
  rw [← b, ← sms_mul]
  refine sms_cong n fun i hi => ?_
  have cf := cb_fac n i hi
  have wa := wf_add hp hi
  have x1 := he i (by omega)
  have x2 := hf (n - i) (by omega)
  obtain ⟨b1, _⟩ := mfc_spec hp (n - i)
  have s1 := Mo.scaleP x1 (Mo.zero (m := p ^ wf p (n - i)) (mfc p (n - i) * f (n - i)) (show fac (n - i) * f (n - i) = _ by rw [b1]; grind))
  have s2 := Mo.scaleP x2 (nr_wf hp hy i)
  have s3 : Mo (p ^ (E + (wf p i + wf p (n - i)))) (fac i * e i * (fac (n - i) * f (n - i))) (y ^ i * w ^ (n - i)) := by
    rw [show E + wf p i + wf p (n - i) = E + (wf p i + wf p (n - i)) by omega] at s1
    rw [show E + wf p (n - i) + wf p i = E + (wf p i + wf p (n - i)) by omega] at s2
    exact s1.trans ((Mo.of_eq (Int.mul_comm _ _)).trans (s2.trans (.of_eq (Int.mul_comm _ _))))
  have s4 := Mo.scaleP s3 (cb_wf hp hi)
  rw [show E + (wf p i + wf p (n - i)) + (wf p n - (wf p i + wf p (n - i))) = E + wf p n by omega] at s4
  refine (Mo.of_eq ?_).trans (s4.trans (.of_eq (by grind)))
  rw [← cf]
  grind
def Ex (p : Int) (E : Nat) (y W : Int) : Prop := ∃ (e : Nat → Int), ExQ p E y e (2 * E + 1) ∧ Mo (p ^ E) W (sms e (2 * E + 1))
theorem Ex.low {p y W : Int} (hp : p ∈ primesL) (hy : Nr p y) {E F : Nat} (h : Ex p E y W) (hF : F ≤ E) : Ex p F y W := by
  obtain ⟨e, he, hW⟩ := h
  refine ⟨e, fun k hk => (he.low hF) k (by omega), (hW.low hF).trans ?_⟩
  exact sms_tail _ (by omega) fun k k1 k2 => half hp hy he k2 hF (by omega)
theorem Ex.add {p y w W Z : Int} (hp : p ∈ primesL) (hy : Nr p y) (hw : Nr p w) {E : Nat} (h : Ex p E y W) (g : Ex p E w Z) : Ex p E (y + w) (W * Z) := by
  obtain ⟨e, he, hW⟩ := h
  obtain ⟨f, hf, hZ⟩ := g
  obtain ⟨N, hN⟩ : ∃ N, N = 2 * E + 1 := ⟨_, rfl⟩
  rw [← hN] at he hW hf hZ
  refine ⟨_, by rw [← hN]; exact conv hp hy hw he hf, ?_⟩
  rw [← hN, tri]
  have s : Mo (p ^ E) (sms e N * sms f N) (sms (fun i => e i * sms f (N - i)) N) := by
    rw [Int.mul_comm, ← sms_mul]
    refine sms_cong N fun i hi => ?_
    rw [Int.mul_comm]
    obtain ⟨a, ha⟩ : ∃ a, a = min E ((i + 1) / 2) := ⟨_, rfl⟩
    have ea := half hp hy he hi (show a ≤ E by omega) (by omega)
    have ft : Mo (p ^ (E - a)) (sms f N) (sms f (N - i)) := sms_tail N (by omega) fun k k1 k2 => half hp hw hf k2 (by omega) (by omega)
    have t := Mo.scaleP ft ea
    rw [show E - a + a = E by omega] at t
    exact (Mo.of_eq (Int.mul_comm _ _)).trans (t.trans (.of_eq (Int.mul_comm _ _)))
  exact (hW.mul hZ).trans s
theorem Lg.inj {p x y T : Int} (hp : p ∈ primesL) (hx : Nr p x) (hy : Nr p y) {E : Nat} (h : Lg p E x T) (g : Lg p E y T) : Mo (p ^ E) x y := by
  have hpb := primesL_le p hp
  obtain ⟨K0, h⟩ := h
  obtain ⟨K1, g⟩ := g
  have e := (h (K0 + K1) (by omega)).symm.trans (g (K0 + K1) (by omega))
  obtain ⟨K, hK⟩ : ∃ K, K = K0 + K1 := ⟨_, rfl⟩
  rw [← hK] at e
  by_cases d0 : x - y = 0
  · exact .of_eq (by omega)
  obtain ⟨u, j, e1, e2, _⟩ := vp_spec hpb.1 d0
  rcases Nat.lt_or_ge j E with jE | jE
  · exfalso
    have near : ∀ s : Nat, Mo (p ^ s) (x - y) 0 → s ≤ j := fun s hs => by
      rcases Nat.lt_or_ge j s with g | g
      · exfalso
        obtain ⟨z, hz⟩ := hs
        rw [Int.zero_add, e1] at hz
        obtain ⟨d, hd⟩ : ∃ d, s = j + (d + 1) := ⟨s - j - 1, by omega⟩
        rw [hd, Int.pow_add] at hz
        have pj : p ^ j ≠ 0 := Int.pow_ne_zero (by omega)
        have : u = p ^ (d + 1) * z := Int.eq_of_mul_eq_mul_right pj (by rw [hz]; grind)
        rw [this, Int.pow_succ, Int.mul_assoc, Int.mul_comm p z, ← Int.mul_assoc, Int.mul_emod_left] at e2
        exact e2 rfl
      · exact g
    have j1 := near 1 (by have := hx.1.sub hy.1; rwa [Int.sub_self] at this)
    have j2 : p = 2 → 2 ≤ j := fun q => near 2 (by have := (hx.2 q).sub (hy.2 q); rwa [Int.sub_self] at this)
    have B1 : (1 + y) % p ≠ 0 := by
      obtain ⟨z, hz⟩ := hy.1
      rw [hz, Int.pow_succ, Int.pow_zero, Int.zero_add, Int.one_mul, Int.add_mul_emod_self_left, Int.emod_eq_of_lt (by omega) (by omega)]
      decide
    obtain ⟨y', q1, q2⟩ := lte_t hp B1 j u j1 j2 K
    have xe : 1 + x = 1 + y + p ^ j * u := by rw [Int.mul_comm]; omega
    rw [xe, q1] at e
    obtain ⟨z, hz⟩ := e
    have f : p ^ (j + K) * y' = p ^ (E + K) * z := by omega
    obtain ⟨d, hd⟩ : ∃ d, E + K = (j + K) + (d + 1) := ⟨E - j - 1, by omega⟩
    rw [hd, Int.pow_add p (j + K) (d + 1)] at f
    have pj : p ^ (j + K) ≠ 0 := Int.pow_ne_zero (by omega)
    have : y' = p ^ (d + 1) * z := Int.eq_of_mul_eq_mul_left pj (by rw [f]; grind)
    have q3 := q2 e2
    rw [this, Int.pow_succ, Int.mul_assoc, Int.mul_comm p z, ← Int.mul_assoc, Int.mul_emod_left] at q3
    exact q3 rfl
  · obtain ⟨d, rfl⟩ : ∃ d, j = E + d := ⟨j - E, by omega⟩
    refine ⟨u * p ^ d, ?_⟩
    rw [Int.pow_add] at e1
    have : u * (p ^ E * p ^ d) = p ^ E * (u * p ^ d) := by grind
    omega
end PM
set_option Elab.async false
set_option linter.all false
set_option maxRecDepth 100000
set_option autoImplicit false
set_option exponentiation.threshold 20000
namespace PM
open PySem PySem.Spec L2 PL
open PyProof.Rows hiding St
def hor (t b : Int) : List Int → Int × Nat
  | [] => (0, 0)
  | c :: r => ((hor t b r).1 * t + c * b ^ (hor t b r).2, (hor t b r).2 + 1)
theorem hor_len (t b : Int) : ∀ l : List Int, (hor t b l).2 = l.length
  | [] => rfl
  | c :: r => by rw [hor]; show (hor t b r).2 + 1 = _; rw [hor_len t b r, List.length_cons]
/-- the fraction reached: of lowest terms, its worth the sum over the bottom's power one less -/
structure Wr (b due N D : Int) (k : Nat) : Prop where
  pos : 0 < D
  low : Int.gcd N D = 1
  eq : N * b ^ (k - 1) = due * D
  szN : N.natAbs < 2 ^ (340 * k + 1)
  szD : D.natAbs < 2 ^ (100 * k + 1)
theorem f_frac1 (c : Int) : F_fraction ([PV.int c] ++ [.int 1]) = .ok (fracV c 1) := by
  have h := f_fraction c 1 (by omega) (by decide)
  rw [(ftop_one c).1, (ftop_one c).2] at h
  exact h
theorem wr_step {t b c due N D : Int} {k : Nat} (h : Wr b due N D k) (hb : 1 ≤ b) (tz : t.natAbs < 2 ^ 100) (bz : b.natAbs < 2 ^ 100) (cz : c.natAbs < 2 ^ 230) (hk : k ≤ 9) (h0 : k = 0 → N = 0 ∧ due = 0 ∧ D = 1) :
    ∃ N' D', ((F_times_fraction [fracV N D, fracV t b]).bind fun x => (F_fraction ([PV.int c] ++ [.int 1])).bind fun y => F_plus_fraction [x, y]) = .ok (fracV N' D') ∧ Wr b (due * t + c * b ^ k) N' D' (k + 1) := by
  have D0 := h.pos
  have nz : N.natAbs < 2 ^ 3900 := sz_le h.szN (by omega)
  have dz : D.natAbs < 2 ^ 3900 := sz_le h.szD (by omega)
  obtain ⟨a, ha⟩ : ∃ a, a = ftop (N * t) (D * b) := ⟨_, rfl⟩
  obtain ⟨d, hd⟩ : ∃ d, d = fbot (N * t) (D * b) := ⟨_, rfl⟩
  have Db : D * b ≠ 0 := mul_ne (by omega) (by omega)
  have T := f_times nz dz (sz_le tz (by omega)) (sz_le bz (by omega)) (by omega) (show b ≠ 0 by omega)
  rw [← ha, ← hd] at T
  have c1 : a * (D * b) = N * t * d := by rw [ha, hd]; exact fcross _ _
  have dp : 0 < d := by rw [hd]; exact fbot_pos Db
  have al : a.natAbs < 2 ^ (340 * k + 101) := Nat.lt_of_le_of_lt (by rw [ha]; exact ftop_le Db) (mul_lt h.szN tz (by omega))
  have dl : d.natAbs < 2 ^ (100 * k + 101) := Nat.lt_of_le_of_lt (by rw [hd]; exact fbot_le Db) (mul_lt h.szD bz (by omega))
  have P := f_plus (a := a) (b := d) (c := c) (d := 1) (sz_le al (by omega)) (sz_le dl (by omega)) (sz_le cz (by omega)) (by decide) (by omega) (by omega)
  have nd : d * 1 ≠ 0 := by omega
  refine ⟨ftop (a * 1 + c * d) (d * 1), fbot (a * 1 + c * d) (d * 1), ?_, fbot_pos nd, flow nd, ?_, ?_, ?_⟩
  · rw [T, bind1, f_frac1, bind1]; exact P
  · have c2 := fcross (a * 1 + c * d) (d * 1)
    obtain ⟨N', hN⟩ : ∃ N', N' = ftop (a * 1 + c * d) (d * 1) := ⟨_, rfl⟩
    obtain ⟨D', hD⟩ : ∃ D', D' = fbot (a * 1 + c * d) (d * 1) := ⟨_, rfl⟩
    rw [← hN, ← hD] at c2 ⊢
    rw [Nat.add_sub_cancel]
    rw [Int.mul_one, Int.mul_one] at c2
    by_cases k0 : k = 0
    · obtain ⟨z1, z2, z3⟩ := h0 k0
      subst k0 z1 z2 z3
      rw [Int.zero_mul, Int.zero_mul] at c1
      have a0 : a = 0 := by
        have : (1 : Int) * b ≠ 0 := by omega
        rcases Int.mul_eq_zero.mp c1 with q | q
        · exact q
        · exact absurd q this
      rw [a0, Int.zero_add] at c2
      have : N' = c * D' := Int.eq_of_mul_eq_mul_right (show d ≠ 0 by omega) (by rw [c2]; grind)
      rw [this, Int.pow_zero]
      grind
    · obtain ⟨j, rfl⟩ : ∃ j, k = j + 1 := ⟨k - 1, by omega⟩
      have e := h.eq
      rw [Nat.add_sub_cancel] at e
      have B : b ^ (j + 1) = b ^ j * b := Int.pow_succ b j
      refine Int.eq_of_mul_eq_mul_right (show d * D ≠ 0 from mul_ne (by omega) (by omega)) ?_
      rw [B]
      have l : N' * (b ^ j * b) * (d * D) = (N' * d) * (b ^ j * (D * b)) := by grind
      rw [l, c2]
      have m : (a + c * d) * D' * (b ^ j * (D * b)) = (a * (D * b) + c * d * (D * b)) * (b ^ j * D') := by grind
      rw [m, c1]
      have n : (N * t * d + c * d * (D * b)) * (b ^ j * D') = (N * b ^ j * t + c * D * (b ^ j * b)) * (d * D') := by grind
      rw [n, e]
      grind
  · exact Nat.lt_of_le_of_lt (ftop_le nd) (add_lt (by rw [Int.mul_one]; exact al) (mul_lt cz dl (Nat.le_refl _)) (by omega) (by omega))
  · exact Nat.lt_of_le_of_lt (fbot_le nd) (by rw [Int.mul_one]; exact sz_le dl (by omega))
theorem worth_loop {t b : Int} (x y : PV) (hy : y = fracV t b) (hb : 1 ≤ b) (tz : t.natAbs < 2 ^ 100) (bz : b.natAbs < 2 ^ 100) : ∀ (l done : List Int) (N D : Int) (s3 : Slot), (∀ c ∈ l, c.natAbs < 2 ^ 230) → done.length + l.length ≤ 10 → Wr b (hor t b done).1 N D done.length → (done.length = 0 → N = 0 ∧ D = 1) →
    ∃ N' D' s3', forL (gN 3) (bSeq (sSet 2 (eD F_plus_fraction (aCons (eD F_times_fraction (aCons (eV 2) (aCons (eV 1) aNil))) (aCons (eD (fun ps => F_fraction (ps ++ [.int 1])) (aCons (eV 3) aNil)) aNil)))) bNil) (l.map PV.int) [.val x, .val y, .val (fracV N D), s3] = .next [.val x, .val y, .val (fracV N' D'), s3'] ∧ Wr b (hor t b (l.reverse ++ done)).1 N' D' (done.length + l.length)
  | [], done, N, D, s3, _, _, h, _ => ⟨N, D, s3, by rw [List.map_nil, forL_nil], by simpa using h⟩
  | c :: l, done, N, D, s3, hc, hl, h, h0 => by
    rw [List.length_cons] at hl
    obtain ⟨N1, D1, s, w⟩ := wr_step (c := c) h hb tz bz (hc c List.mem_cons_self) (by omega) (fun z => by
      obtain ⟨q1, q2⟩ := h0 z
      have : done = [] := List.length_eq_zero_iff.mp z
      subst this
      exact ⟨q1, rfl, q2⟩)
    have e : (hor t b done).1 * t + c * b ^ done.length = (hor t b (c :: done)).1 := by rw [hor, hor_len]
    rw [e] at w
    obtain ⟨N', D', s3', i, w'⟩ := worth_loop x y hy hb tz bz l (c :: done) N1 D1 (.val (.int c)) (fun q hq => hc q (List.mem_cons_of_mem _ hq)) (by rw [List.length_cons]; omega) w (fun z => by simp at z)
    refine ⟨N', D', s3', ?_, by simpa [Nat.add_assoc, Nat.add_comm 1] using w'⟩
    rw [← i, List.map_cons, forL_cons, gN_eq, onR_some]
    revert s
    cases hT : F_times_fraction [fracV N D, fracV t b] with
    | ok q =>
      rw [bind1]
      intro s
      rw [f_frac1, bind1] at s
      have f1 : F_fraction ([PV.int c] ++ [PV.int 1]) = .ok (fracV c 1) := f_frac1 c
      simp only [List.set_cons_succ, List.set_cons_zero, bSeq_eq, sSet_eq, eD_eq, aCons_eq, aNil_eq, eV0, eVs, hy, hT, bind1, f1, s, st_ok, then_next, bNil_eq, fo_next]
    | exc q => exact fun s => nomatch s
    | stuck => exact fun s => nomatch s
theorem f_worth_at {t b : Int} (hb : 1 ≤ b) (tz : t.natAbs < 2 ^ 100) (bz : b.natAbs < 2 ^ 100) (l : List Int) (hc : ∀ c ∈ l, c.natAbs < 2 ^ 230) (hl : l.length ≤ 10) : ∃ N D, F_worth_at [.lst (l.map PV.int), fracV t b] = .ok (fracV N D) ∧ Wr b (hor t b l).1 N D l.length := by
  obtain ⟨N, D, s3, i, w⟩ := worth_loop (.lst (l.map PV.int)) (fracV t b) rfl hb tz bz l.reverse [] 0 1 .un (fun c h => hc c (List.mem_reverse.mp h)) (by simp; omega) ⟨by omega, by decide, by simp [hor], by decide, by decide⟩ (fun _ => ⟨rfl, rfl⟩)
  rw [List.reverse_reverse, List.append_nil] at w
  rw [List.map_reverse] at i
  refine ⟨N, D, ?_, by simpa using w⟩
  refine (runF_eq (n := 4) (u := D_worth_at)).trans ?_
  show (D_worth_at [.val (.lst (l.map PV.int)), .val (fracV t b), .un, .un]).res = _
  have f1 : F_fraction ([PV.int 0] ++ [PV.int 1]) = .ok (fracV 0 1) := f_frac1 0
  unfold D_worth_at
  refine stp (fracV 0 1) (by simp only [eD_eq, aCons_eq, aNil_eq, eC_eq, bind1, f1]) ?_
  simp only [List.set_cons_succ, List.set_cons_zero]
  refine stpFor (l.map PV.int).reverse _ (by simp only [iRv_eq, eV0, bind1]; rfl) i ?_
  simp only [bSeq_eq, sRet_eq, eV0, eVs, st_ok, then_ret, res_ret]
def slp : Nat → List Int → List Int
  | _, [] => []
  | n, a :: r => (n : Int) * a :: slp (n + 1) r
theorem slp_len : ∀ (l : List Int) (n : Nat), (slp n l).length = l.length
  | [], _ => rfl
  | a :: r, n => by rw [slp, List.length_cons, List.length_cons, slp_len r]
theorem slope_lc (x : PV) : ∀ (l : List Int) (n : Nat), n + l.length ≤ 1000 → (∀ a ∈ l, a.natAbs < 2 ^ 230) →
    lcGo (gT (gsCons (gN 1) (gsCons (gN 2) gsNil))) cYes (e2 mulP (eVo 1) (eVo 2)) [.val x, .un, .un] (enumL n (l.map PV.int)) = .ok ((slp n l).map PV.int)
  | [], n, _, _ => by rw [List.map_nil, enumL]; rfl
  | a :: r, n, hn, hb => by
    rw [List.length_cons] at hn
    have ih := slope_lc x r (n + 1) (by omega) (fun q hq => hb q (List.mem_cons_of_mem _ hq))
    have m : mulP (.int (n : Int)) (.int a) = .ok (.int (n * a)) := mulP_ii (okMul_of (m := 100) (by omega) (hb a List.mem_cons_self) (by omega) (by omega) (by omega))
    have g : gT (gsCons (gN 1) (gsCons (gN 2) gsNil)) (.tup [.int (n : Nat), .int a]) [.val x, .un, .un] = some [.val x, .val (.int n), .val (.int a)] := rfl
    rw [List.map_cons, enumL, lcGo, g]
    dsimp only [cYes]
    rw [show e2 mulP (eVo 1) (eVo 2) [.val x, .val (.int n), .val (.int a)] = .ok (.int (n * a)) by simp only [e2_eq, eVos, eVo0, bind1, m]]
    dsimp only
    rw [ih, slp, List.map_cons]
theorem f_slope_of {as : List Int} (h : PolyI as) (hb : ∀ a ∈ as, a.natAbs < 2 ^ 230) : F_slope_of [.lst (as.map PV.int)] = .ok (.lst (((slp 0 as).drop 1).map PV.int)) := by
  refine (runF_eq (n := 3) (u := D_slope_of)).trans ?_
  show (D_slope_of [.val (.lst (as.map PV.int)), .un, .un]).res = _
  have L := eLc_ok (vs := [1, 2]) (it := iEn (eV 0)) (ρ := [.val (.lst (as.map PV.int)), .un, .un]) (items := enumL 0 (as.map PV.int)) rfl (by simp [iEn]) (by rw [enum_len]; have := h.2.1; omega) (slope_lc (.lst (as.map PV.int)) as 0 (by have := h.2.1; omega) hb)
  have w := f_want_poly_ok (f_is_poly_ok h)
  have s1 : slL (.lst ((slp 0 as).map PV.int)) (some 1) none = .ok (.lst (((slp 0 as).drop 1).map PV.int)) := by
    show R.ok (PV.lst (cutG ((slp 0 as).map PV.int) (some 1) none)) = _
    rw [cut_drop _ _ (by omega), ← List.map_drop]; rfl
  unfold D_slope_of
  refine stpN (ρ' := [.val (.lst (as.map PV.int)), .un, .un]) (by simp [w]) ?_
  simp only [bSeq_eq, sRet_eq, eSl_eq, oSome_eq, oNone_eq, eC_eq, L, bind1, asI_eq, s1, st_ok, then_ret, res_ret]
theorem f_slope_no {x : PV} (h : F_is_poly [x] = .ok (.bl false)) : F_slope_of [x] = .exc "NoPolynomial" := by
  refine (runF_eq (n := 3) (u := D_slope_of)).trans ?_
  show (D_slope_of [.val x, .un, .un]).res = _
  simp [D_slope_of, f_want_poly_no h]
def at0 (l : List Int) (n : Nat) : Int := l.getD n 0
theorem at0_out {l : List Int} {n : Nat} (h : l.length ≤ n) : at0 l n = 0 := by unfold at0; rw [List.getD_eq_getElem?_getD, List.getElem?_eq_none h]; rfl
def prow (a b : List Int) (n : Nat) : Nat → Int
  | 0 => 0
  | k + 1 => prow a b n k + (if k ≤ n then at0 a k * at0 b (n - k) else 0)
theorem prow_sms (a b : List Int) (n : Nat) : ∀ k : Nat, k ≤ n → prow a b n (k + 1) = sms (fun i => at0 a i * at0 b (n - i)) k
  | 0, _ => by rw [prow, prow, if_pos (Nat.zero_le _)]; show 0 + _ = _; rw [Int.zero_add]; rfl
  | k + 1, h => by rw [prow, prow_sms a b n k (by omega), if_pos h]; rfl
theorem prow_more (a b : List Int) (n k : Nat) : ∀ j : Nat, a.length ≤ k ∨ n < k → prow a b n (k + j) = prow a b n k
  | 0, _ => rfl
  | j + 1, h => by
    rw [← Nat.add_assoc, prow, prow_more a b n k j h]
    rcases h with h | h
    · rw [at0_out (show a.length ≤ k + j by omega)]
      split <;> simp
    · rw [if_neg (by omega), Int.add_zero]
theorem prow_full (a b : List Int) (n : Nat) : prow a b n a.length = sms (fun i => at0 a i * at0 b (n - i)) n := by
  rw [← prow_sms a b n n (Nat.le_refl _)]
  rcases Nat.lt_or_ge a.length (n + 1) with g | g
  · obtain ⟨j, hj⟩ : ∃ j, n + 1 = a.length + j := ⟨n + 1 - a.length, by omega⟩
    rw [hj, prow_more a b n a.length j (.inl (Nat.le_refl _))]
  · obtain ⟨j, hj⟩ : ∃ j, a.length = (n + 1) + j := ⟨a.length - (n + 1), by omega⟩
    rw [hj, prow_more a b n (n + 1) j (.inr (by omega))]
theorem sms_rev (f : Nat → Int) : ∀ n : Nat, sms (fun i => f (n - i)) n = sms f n
  | 0 => rfl
  | n + 1 => by
    rw [sms_front]
    have : sms (fun i => f (n + 1 - (i + 1))) n = sms (fun i => f (n - i)) n := sms_ext n fun i _ => by rw [Nat.add_sub_add_right]
    rw [this, sms_rev f n]
    show f (n + 1) + _ = sms f n + f (n + 1)
    omega
theorem prow_comm (a b : List Int) (n : Nat) : prow a b n a.length = prow b a n b.length := by
  rw [prow_full, prow_full, ← sms_rev]
  refine sms_ext n fun i hi => ?_
  show at0 a (n - i) * at0 b (n - (n - i)) = at0 b i * at0 a (n - i)
  rw [show n - (n - i) = i by omega, Int.mul_comm]
/-- the product's numbers -/
def prodL (a b : List Int) : List Int := (List.range (a.length + b.length - 1)).map fun n => prow a b n a.length
theorem prodL_len (a b : List Int) : (prodL a b).length = a.length + b.length - 1 := by unfold prodL; rw [List.length_map, List.length_range]
theorem prodL_comm (a b : List Int) : prodL a b = prodL b a := by
  unfold prodL
  rw [Nat.add_comm b.length a.length]
  exact List.map_congr_left fun n _ => prow_comm a b n
theorem prodL_of {a b L : List Int} (hl : L.length = a.length + b.length - 1) (h : ∀ n, n < L.length → at0 L n = prow a b n a.length) : L = prodL a b := by
  refine List.ext_getElem? fun n => ?_
  rcases Nat.lt_or_ge n L.length with g | g
  · have e := h n g
    unfold at0 at e
    rw [List.getD_eq_getElem?_getD, List.getElem?_eq_getElem g, Option.getD_some] at e
    rw [List.getElem?_eq_getElem g, e]
    unfold prodL
    rw [List.getElem?_map, List.getElem?_range (by omega)]
    rfl
  · rw [List.getElem?_eq_none g, List.getElem?_eq_none (by rw [prodL_len]; omega)]
/-- the list while row k is added, up to its m-th number -/
def Part (a b L : List Int) (k m : Nat) : Prop := L.length = a.length + b.length - 1 ∧ ∀ n, n < L.length → at0 L n = prow a b n k + (if k ≤ n ∧ n - k < m then at0 a k * at0 b (n - k) else 0)
theorem Part.next {a b L : List Int} {k m : Nat} (h : Part a b L k m) (hk : k < a.length) (hm : m < b.length) : Part a b (L.set (k + m) (at0 L (k + m) + at0 a k * at0 b m)) k (m + 1) := by
  obtain ⟨h1, h2⟩ := h
  have kl : k + m < L.length := by omega
  refine ⟨by rw [List.length_set, h1], fun n hn => ?_⟩
  rw [List.length_set] at hn
  by_cases e : n = k + m
  · subst e
    have : at0 (L.set (k + m) (at0 L (k + m) + at0 a k * at0 b m)) (k + m) = at0 L (k + m) + at0 a k * at0 b m := by
      unfold at0
      rw [List.getD_eq_getElem?_getD, List.getElem?_set_self kl, Option.getD_some]
    rw [this, h2 _ kl, if_neg (by omega), if_pos (by omega), Int.add_zero, Nat.add_sub_cancel_left]
  · have : at0 (L.set (k + m) (at0 L (k + m) + at0 a k * at0 b m)) n = at0 L n := by
      unfold at0
      rw [List.getD_eq_getElem?_getD, List.getElem?_set_ne (fun z => e z.symm), ← List.getD_eq_getElem?_getD]
    rw [this, h2 n hn]
    congr 1
    by_cases q : k ≤ n ∧ n - k < m
    · rw [if_pos q, if_pos (by omega)]
    · rw [if_neg q, if_neg (by omega)]
theorem Part.row {a b L : List Int} {k : Nat} (h : Part a b L k b.length) : Part a b L (k + 1) 0 := by
  refine ⟨h.1, fun n hn => ?_⟩
  rw [h.2 n hn, prow]
  have z : ¬ (k + 1 ≤ n ∧ n - (k + 1) < 0) := by omega
  rw [if_neg z, Int.add_zero]
  congr 1
  by_cases q : k ≤ n
  · rw [if_pos q]
    by_cases w : n - k < b.length
    · rw [if_pos ⟨q, w⟩]
    · rw [if_neg (fun r => w r.2), at0_out (show b.length ≤ n - k by omega), Int.mul_zero]
  · rw [if_neg q, if_neg (fun r => q r.1)]
theorem Part.done {a b L : List Int} (h : Part a b L a.length 0) : L = prodL a b := prodL_of h.1 fun n hn => by rw [h.2 n hn, if_neg (by omega), Int.add_zero]
theorem part_zero (a b : List Int) (h : 1 ≤ a.length + b.length) : Part a b (List.replicate (a.length + b.length - 1) 0) 0 0 := by
  refine ⟨List.length_replicate .., fun n hn => ?_⟩
  rw [List.length_replicate] at hn
  unfold at0
  rw [List.getD_eq_getElem?_getD, List.getElem?_replicate, if_pos hn, prow, if_neg (by omega)]; rfl
theorem row_loop {a b : List Int} (x y : PV) (k : Nat) (hk : k < a.length) (ha : ∀ c ∈ a, c.natAbs < 2 ^ 300) (hb : ∀ c ∈ b, c.natAbs < 2 ^ 300) (hs : a.length + b.length ≤ 1000) : ∀ (r pre L : List Int) (s5 s6 : Slot), b = pre ++ r → Part a b L k pre.length →
    ∃ (L' : List Int) (s5' s6' : Slot), forL (gT (gsCons (gN 5) (gsCons (gN 6) gsNil))) (bSeq (sAugI 2 (e2 addP (eVo 3) (eVo 5)) (e2 mulP (eVo 4) (eVo 6))) bNil) (enumL pre.length (r.map PV.int)) [.val x, .val y, .own (L.map PV.int), .val (.int k), .val (.int (at0 a k)), s5, s6] = .next [.val x, .val y, .own (L'.map PV.int), .val (.int k), .val (.int (at0 a k)), s5', s6'] ∧ Part a b L' k b.length
  | [], pre, L, s5, s6, e, h => ⟨L, s5, s6, by rw [List.map_nil, enumL, forL_nil], by rw [show b.length = pre.length by rw [e, List.append_nil]]; exact h⟩
  | c :: r, pre, L, s5, s6, e, h => by
    have bl : b.length = pre.length + r.length + 1 := by rw [e]; simp; omega
    have ac : at0 b pre.length = c := by unfold at0; rw [List.getD_eq_getElem?_getD, e, List.getElem?_append_right (Nat.le_refl _), Nat.sub_self]; rfl
    have nx := h.next hk (show pre.length < b.length by omega)
    rw [ac] at nx
    have L1 := h.1
    obtain ⟨L', s5', s6', i, w⟩ := row_loop x y k hk ha hb hs r (pre ++ [c]) _ (.val (.int pre.length)) (.val (.int c)) (by rw [e]; simp) (by rw [List.length_append, List.length_singleton]; exact nx)
    have am : (at0 a k).natAbs < 2 ^ 300 := by
      unfold at0; rw [List.getD_eq_getElem?_getD, List.getElem?_eq_getElem hk]; exact ha _ (List.getElem_mem hk)
    have m : mulP (.int (at0 a k)) (.int c) = .ok (.int (at0 a k * c)) := mulP_ii (okMul_of am (hb c (by rw [e]; simp)) (by omega) (by omega) (by omega))
    have g := getN_ints (ns := L) (k := (k : Int) + (pre.length : Int)) (by omega) (by omega) (by omega)
    have ag := augN_ints (ns := L) (k := (k : Int) + (pre.length : Int)) (a := at0 L (k + pre.length)) (b := at0 a k * c) (by omega) (by omega)
    rw [show ((k : Int) + (pre.length : Int)).toNat = k + pre.length by omega] at g ag
    have gt : ∀ s5 s6, gT (gsCons (gN 5) (gsCons (gN 6) gsNil)) (.tup [.int (pre.length : Nat), .int c]) [.val x, .val y, .own (L.map PV.int), .val (.int k), .val (.int (at0 a k)), s5, s6] = some [.val x, .val y, .own (L.map PV.int), .val (.int k), .val (.int (at0 a k)), .val (.int pre.length), .val (.int c)] := fun _ _ => rfl
    refine ⟨L', s5', s6', ?_, w⟩
    rw [List.length_append, List.length_singleton] at i
    rw [← i, List.map_cons, enumL, forL_cons, gt, onR_some]
    have g' : getN (L.map PV.int) (.int ((k : Int) + (pre.length : Int))) = some (.int (at0 L (k + pre.length))) := g
    simp only [bSeq_eq, sAugI_eq, getOwn0, getOwnS, onOwn_some, e2_eq, eVos, eVo0, bind1, addP_ii, st_ok, g', onSome_some, m, ag, own_ok, List.set_cons_succ, List.set_cons_zero, then_next, bNil_eq, fo_next]
theorem prod_loop {a b : List Int} (x y : PV) (hy : y = .lst (b.map PV.int)) (ha : ∀ c ∈ a, c.natAbs < 2 ^ 300) (hb : ∀ c ∈ b, c.natAbs < 2 ^ 300) (hs : a.length + b.length ≤ 1000) : ∀ (r pre L : List Int) (s3 s4 s5 s6 : Slot), a = pre ++ r → Part a b L pre.length 0 →
    ∃ (L' : List Int) (s3' s4' s5' s6' : Slot), forL (gT (gsCons (gN 3) (gsCons (gN 4) gsNil))) (bSeq (sFor (iEn (eV 1)) (gT (gsCons (gN 5) (gsCons (gN 6) gsNil))) (bSeq (sAugI 2 (e2 addP (eVo 3) (eVo 5)) (e2 mulP (eVo 4) (eVo 6))) bNil)) bNil) (enumL pre.length (r.map PV.int)) [.val x, .val y, .own (L.map PV.int), s3, s4, s5, s6] = .next [.val x, .val y, .own (L'.map PV.int), s3', s4', s5', s6'] ∧ Part a b L' a.length 0
  | [], pre, L, s3, s4, s5, s6, e, h => ⟨L, s3, s4, s5, s6, by rw [List.map_nil, enumL, forL_nil], by rw [show a.length = pre.length by rw [e, List.append_nil]]; exact h⟩
  | c :: r, pre, L, s3, s4, s5, s6, e, h => by
    have al : a.length = pre.length + r.length + 1 := by rw [e]; simp; omega
    have ac : at0 a pre.length = c := by unfold at0; rw [List.getD_eq_getElem?_getD, e, List.getElem?_append_right (Nat.le_refl _), Nat.sub_self]; rfl
    obtain ⟨L1, s5', s6', i1, w1⟩ := row_loop x y pre.length (by omega) ha hb hs b [] L s5 s6 rfl h
    rw [ac] at i1
    obtain ⟨L', q3, q4, q5, q6, i2, w2⟩ := prod_loop x y hy ha hb hs r (pre ++ [c]) L1 (.val (.int pre.length)) (.val (.int c)) s5' s6' (by rw [e]; simp) (by rw [List.length_append, List.length_singleton]; exact w1.row)
    have gt : ∀ s3 s4, gT (gsCons (gN 3) (gsCons (gN 4) gsNil)) (.tup [.int (pre.length : Nat), .int c]) [.val x, .val y, .own (L.map PV.int), s3, s4, s5, s6] = some [.val x, .val y, .own (L.map PV.int), .val (.int pre.length), .val (.int c), s5, s6] := fun _ _ => rfl
    refine ⟨L', q3, q4, q5, q6, ?_, w2⟩
    rw [List.length_append, List.length_singleton] at i2
    rw [← i2, List.map_cons, enumL, forL_cons, gt, onR_some]
    rw [sqF (ρ' := [.val x, .val y, .own (L1.map PV.int), .val (.int pre.length), .val (.int c), s5', s6']) (enumL 0 (b.map PV.int)) (by rw [hy]; simp [iEn]) i1 rfl, bNil_eq, fo_next]
theorem f_product_of {a b : List Int} (pa : PolyI a) (pb : PolyI b) (ha : ∀ c ∈ a, c.natAbs < 2 ^ 300) (hb : ∀ c ∈ b, c.natAbs < 2 ^ 300) : F_product_of [.lst (a.map PV.int), .lst (b.map PV.int)] = .ok (.lst ((prodL a b).map PV.int)) := by
  have a9 := pa.2.1
  have b9 := pb.2.1
  have a2 := pa.1
  have b2 := pb.1
  obtain ⟨L', s3, s4, s5, s6, i, w⟩ := prod_loop (.lst (a.map PV.int)) (.lst (b.map PV.int)) rfl ha hb (by omega) a [] (List.replicate (a.length + b.length - 1) 0) .un .un .un .un rfl (part_zero a b (by omega))
  rw [w.done] at i
  have w1 := f_want_poly_ok (f_is_poly_ok pa)
  have w2 := f_want_poly_ok (f_is_poly_ok pb)
  have l0 : lstP [.int 0] = .ok (.lst [.int 0]) := lstP_ok (by simp)
  have l1 : lenP [.lst (a.map PV.int)] = .ok (.int a.length) := by simp
  have l2 : lenP [.lst (b.map PV.int)] = .ok (.int b.length) := by simp
  have rp : repL (.lst [.int 0]) (.int ((a.length : Int) + (b.length : Int) - 1)) = .ok (.lst ((List.replicate (a.length + b.length - 1) (0 : Int)).map PV.int)) := by
    rw [repL_ok (by omega) (by omega) (by simp), show ((a.length : Int) + (b.length : Int) - 1).toNat = a.length + b.length - 1 by omega]
    simp
  obtain ⟨X, hX⟩ : ∃ X, X = PV.lst (a.map PV.int) := ⟨_, rfl⟩
  obtain ⟨Y, hY⟩ : ∃ Y, Y = PV.lst (b.map PV.int) := ⟨_, rfl⟩
  have en : iEn (eV 0) [.val X, .val Y, .own ((List.replicate (a.length + b.length - 1) (0 : Int)).map PV.int), .un, .un, .un, .un] = .ok (enumL 0 (a.map PV.int)) := by rw [hX]; simp [iEn]
  rw [← hX, ← hY] at i ⊢
  rw [← hX] at w1 l1
  rw [← hY] at w2 l2
  refine (runF_eq (n := 7) (u := D_product_of)).trans ?_
  show (D_product_of [.val X, .val Y, .un, .un, .un, .un, .un]).res = _
  unfold D_product_of
  refine stpN (ρ' := [.val X, .val Y, .un, .un, .un, .un, .un]) (by simp [w1]) ?_
  refine stpN (ρ' := [.val X, .val Y, .un, .un, .un, .un, .un]) (by simp [w2]) ?_
  refine stpN (ρ' := [.val X, .val Y, .own ((List.replicate (a.length + b.length - 1) (0 : Int)).map PV.int), .un, .un, .un, .un]) (by
    simp only [sSetO_eq, e2_eq, eD_eq, aCons_eq, aNil_eq, eC_eq, eVos, eVo0, bind1, l0, l1, l2, addP_ii, subP_ii, rp, st_ok, asL_l, own_ok, List.set_cons_succ, List.set_cons_zero]) ?_
  refine stpFor (enumL 0 (a.map PV.int)) _ en i ?_
  simp only [bSeq_eq, sRetO_eq, getOwn0, getOwnS, onOwn_some, then_ret, res_ret]
theorem f_product_no {x y : PV} (h : F_is_poly [x] = .ok (.bl false)) : F_product_of [x, y] = .exc "NoPolynomial" := by
  refine (runF_eq (n := 7) (u := D_product_of)).trans ?_
  show (D_product_of [.val x, .val y, .un, .un, .un, .un, .un]).res = _
  simp [D_product_of, f_want_poly_no h]
theorem f_product_no2 {x y : PV} (h0 : F_is_poly [x] = .ok (.bl true)) (h : F_is_poly [y] = .ok (.bl false)) : F_product_of [x, y] = .exc "NoPolynomial" := by
  refine (runF_eq (n := 7) (u := D_product_of)).trans ?_
  show (D_product_of [.val x, .val y, .un, .un, .un, .un, .un]).res = _
  simp [D_product_of, f_want_poly_no h, f_want_poly_ok h0]
theorem poly_no (x : PV) (h : isL x = false) : F_is_poly [x] = .ok (.bl false) := by
  refine (runF_eq (n := 2) (u := D_is_poly)).trans ?_
  show (D_is_poly [.val x, .un]).res = _
  simp [D_is_poly, isi_list, h]
theorem poly_len (l : List PV) (h : l.length < 2 ∨ 9 < l.length) : F_is_poly [.lst l] = .ok (.bl false) := by
  refine (runF_eq (n := 2) (u := D_is_poly)).trans ?_
  show (D_is_poly [.val (.lst l), .un]).res = _
  have ln : lenP [.lst l] = .ok (.int l.length) := by simp
  rcases h with h | h
  · have c : ((l.length : Int) < 2) := by omega
    simp [D_is_poly, isi_list, isL, ln, c]
  · have c : ¬ ((l.length : Int) < 2) := by omega
    have c2 : (9 : Int) < (l.length : Int) := by omega
    simp [D_is_poly, isi_list, isL, ln, c, c2]
theorem poly_bad (l : List PV) (h2 : 2 ≤ l.length) (h9 : l.length ≤ 9) (h : l.all isW = false) : F_is_poly [.lst l] = .ok (.bl false) := by
  refine (runF_eq (n := 2) (u := D_is_poly)).trans ?_
  show (D_is_poly [.val (.lst l), .un]).res = _
  have ln : lenP [.lst l] = .ok (.int l.length) := by simp
  have il : isiP "list" (.lst l) = .ok (.bl true) := by rw [isi_list]; rfl
  have go : lcGo (gN 1) cYes (eD F_is_whole (aCons (eV 1) aNil)) [.val (.lst l), .un] l = .ok (l.map fun q => PV.bl (isW q)) := by
    refine lcGo_map _ _ fun q hq => ⟨_, rfl, ?_⟩
    simp [f_is_whole]
  have L := eLc_ok (vs := [1]) (it := iS (eV 0)) (ρ := [.val (.lst l), .un]) (items := l) rfl (by simp) (by omega) go
  have al : allP [.lst (l.map fun q => PV.bl (isW q))] = .ok (.bl false) := by
    rw [show (l.map fun q => PV.bl (isW q)) = (l.map isW).map PV.bl by rw [List.map_map]; rfl, allP_bl, List.all_map]
    exact congrArg (fun b => R.ok (PV.bl b)) h
  have c1 : ¬ ((l.length : Int) < 2) := by omega
  have c2 : ¬ ((9 : Int) < (l.length : Int)) := by omega
  unfold D_is_poly
  refine skp (by simp only [tOr_eq, tNt_eq, tB1_eq, e1_eq, e2_eq, eD_eq, aCons_eq, aNil_eq, eC_eq, eVo0, bind1, il, ln, asB_eq, Bool.not_true, if_neg Bool.false_ne_true, ltP_ii, gtP_ii, decide_eq_false c1, gt_iff_lt, decide_eq_false c2]) ?_
  simp only [bSeq_eq, sRet_eq, eAn_eq, eD_eq, aCons_eq, aNil_eq, L, bind1, al, asB_eq, if_neg Bool.false_ne_true, st_ok, then_ret, res_ret]
end PM
set_option Elab.async false
set_option linter.all false
set_option maxRecDepth 100000
set_option autoImplicit false
namespace K61
open PySem PySem.Spec L2 PL PM
open PyProof.Rows hiding St
def csL : List Str := ["NoFraction", "NoPolynomial"]
noncomputable def D__law_cell_at : Rho → Out := (bSeq (sIf (tB1 (e2 ltP (eVo 1) (eD lenP (aCons (eVo 0) aNil)))) (bSeq (sRet (e2 ixP (eVo 0) (eVo 1))) bNil) bNil) (bSeq (sRet (eC (.int 0))) bNil))
noncomputable def F__law_cell_at : List PV → R PV := runF 2 D__law_cell_at
noncomputable def D__law_whole : Rho → Out := (bSeq (sRet (eAn (e1 (isiP "int") (eVo 0)) (e1 notP (e1 (isiP "bool") (eVo 0))))) bNil)
noncomputable def F__law_whole : List PV → R PV := runF 1 D__law_whole
noncomputable def D__law_number : Rho → Out := (bSeq (sSet 1 (e2 fdivP (eVo 0) (eC (.int 4)))) (bSeq (sIf (tB1 (e2 eqP (e2 modP (eVo 0) (eC (.int 4))) (eC (.int 1)))) (bSeq (sRet (e2 subP (e2 modP (e2 mulP (eVo 1) (eC (.int 982451653))) (e2 addP (e2 mulP (eC (.int 2)) (e2 powP (eC (.int 10)) (eC (.int 12)))) (eC (.int 1)))) (e2 powP (eC (.int 10)) (eC (.int 12))))) bNil) bNil) (bSeq (sIf (tB1 (e2 eqP (e2 modP (eVo 0) (eC (.int 4))) (eC (.int 3)))) (bSeq (sRet (e2 subP (e2 modP (e2 mulP (eVo 1) (eC (.int 48271))) (e2 addP (e2 mulP (eC (.int 2)) (e2 powP (eC (.int 10)) (eC (.int 59)))) (eC (.int 1)))) (e2 powP (eC (.int 10)) (eC (.int 59))))) bNil) bNil) (bSeq (sRet (e2 subP (e2 modP (eVo 1) (eC (.int 19))) (eC (.int 9)))) bNil))))
noncomputable def F__law_number : List PV → R PV := runF 2 D__law_number
noncomputable def D__law_list : Rho → Out := (bSeq (sSetO 1 (eLc [2] (iS (eV 0)) (gN 2) cYes (eD F__law_number (aCons (eV 2) aNil)))) (bSeq (sIf (tAn (tB1 (e2 neP (eVo 1) (eD lstP aNil))) (tB1 (e2 eqP (e2 ixP (eVo 1) (e1 negP (eC (.int 1)))) (eC (.int 0))))) (bSeq (sSetI 1 (eC (.int 1)) (e1 negP (eC (.int 1)))) bNil) bNil) (bSeq (sRetO 1) bNil)))
noncomputable def F__law_list : List PV → R PV := runF 3 D__law_list
noncomputable def D__law_divisor : Rho → Out := (bSeq (sSet 0 (eD absP (aCons (eVo 0) aNil))) (bSeq (sSet 1 (eD absP (aCons (eVo 1) aNil))) (bSeq (sWh (tB1 (e2 gtP (eVo 1) (eC (.int 0)))) (bSeq (sPar 0 1 (aCons (eV 1) (aCons (e2 modP (eVo 0) (eVo 1)) aNil))) bNil)) (bSeq (sRet (eV 0)) bNil))))
noncomputable def F__law_divisor : List PV → R PV := runF 2 D__law_divisor
noncomputable def D__law_part : Rho → Out := (bSeq (sIf (tB1 (e2 eqP (e2 modP (eVo 0) (eC (.int 4))) (eC (.int 1)))) (bSeq (sSet 0 (e2 subP (e2 modP (e2 fdivP (eVo 0) (eC (.int 4))) (e2 addP (e2 mulP (eC (.int 2)) (e2 powP (eC (.int 10)) (eC (.int 29)))) (eC (.int 1)))) (e2 powP (eC (.int 10)) (eC (.int 29))))) (bSeq (sSet 1 (e2 addP (eC (.int 1)) (e2 modP (eVo 1) (e2 powP (eC (.int 10)) (eC (.int 29)))))) bNil)) (bSeq (sSet 0 (e2 subP (e2 modP (e2 fdivP (eVo 0) (eC (.int 4))) (eC (.int 41))) (eC (.int 20)))) (bSeq (sSet 1 (e2 addP (eC (.int 1)) (e2 modP (eVo 1) (eC (.int 12))))) bNil))) (bSeq (sSet 2 (eD F__law_divisor (aCons (eV 0) (aCons (eV 1) aNil)))) (bSeq (sRet (eD tupP (aCons (e2 fdivP (eVo 0) (eVo 2)) (aCons (e2 fdivP (eVo 1) (eVo 2)) aNil)))) bNil)))
noncomputable def F__law_part : List PV → R PV := runF 3 D__law_part
noncomputable def D__law_worth_right : Rho → Out := (bSeq (sTo (gT (gsCons (gN 2) (gsCons (gN 3) gsNil))) (eV 1)) (bSeq (sSet 4 (eC (.int 0))) (bSeq (sSet 5 (eC (.int 1))) (bSeq (sFor (iRv (eV 0)) (gN 6) (bSeq (sSet 4 (e2 addP (e2 mulP (eVo 4) (eVo 2)) (e2 mulP (eVo 6) (eVo 5)))) (bSeq (sSet 5 (e2 mulP (eVo 5) (eVo 3))) bNil))) (bSeq (sSet 5 (e2 fdivP (eVo 5) (eVo 3))) (bSeq (sSet 7 (eD F_worth_at (aCons (eV 0) (aCons (eV 1) aNil)))) (bSeq (sIf (tOr' (tNt (tB1 (e1 (isiP "tuple") (eVo 7)))) (tOr' (tB1 (e2 neP (eD lenP (aCons (eVo 7) aNil)) (eC (.int 2)))) (tOr' (tNt (tB1 (eD F__law_whole (aCons (e2 ixP (eVo 7) (eC (.int 0))) aNil)))) (tNt (tB1 (eD F__law_whole (aCons (e2 ixP (eVo 7) (eC (.int 1))) aNil))))))) (bSeq (sRet (eC (.bl false))) bNil) bNil) (bSeq (sRet (eAn (e2 gtP (e2 ixP (eVo 7) (eC (.int 1))) (eC (.int 0))) (eAn (e2 eqP (eD F__law_divisor (aCons (e2 ixP (eVo 7) (eC (.int 0))) (aCons (e2 ixP (eVo 7) (eC (.int 1))) aNil))) (eC (.int 1))) (e2 eqP (e2 mulP (e2 ixP (eVo 7) (eC (.int 0))) (eVo 5)) (e2 mulP (eVo 4) (e2 ixP (eVo 7) (eC (.int 1)))))))) bNil))))))))
noncomputable def F__law_worth_right : List PV → R PV := runF 8 D__law_worth_right
noncomputable def D__law_row_right : Rho → Out := (bSeq (sIf (tOr' (tNt (tB1 (e1 (isiP "list") (eVo 0)))) (tNt (tB1 (eD allP (aCons (eLc [2] (iS (eV 0)) (gN 2) cYes (eD F__law_whole (aCons (eV 2) aNil))) aNil))))) (bSeq (sRet (eC (.bl false))) bNil) bNil) (bSeq (sRet (e2 eqP (eVo 0) (eVo 1))) bNil))
noncomputable def F__law_row_right : List PV → R PV := runF 3 D__law_row_right
noncomputable def D__law_product : Rho → Out := (bSeq (sSetO 2 (eLc [3] (iR rng1 (aCons (e2 subP (e2 addP (eD lenP (aCons (eVo 0) aNil)) (eD lenP (aCons (eVo 1) aNil))) (eC (.int 1))) aNil)) (gN 3) cYes (eC (.int 0)))) (bSeq (sFor (iR rng1 (aCons (eD lenP (aCons (eVo 0) aNil)) aNil)) (gN 3) (bSeq (sFor (iR rng1 (aCons (eD lenP (aCons (eVo 1) aNil)) aNil)) (gN 4) (bSeq (sSetI 2 (e2 addP (e2 ixP (eVo 2) (e2 addP (eVo 3) (eVo 4))) (e2 mulP (e2 ixP (eVo 0) (eVo 3)) (e2 ixP (eVo 1) (eVo 4)))) (e2 addP (eVo 3) (eVo 4))) bNil)) bNil)) (bSeq (sRetO 2) bNil)))
noncomputable def F__law_product : List PV → R PV := runF 5 D__law_product
noncomputable def D__law_odd : Rho → Out := (bSeq (sSet 1 (e2 modP (e2 fdivP (eVo 0) (eC (.int 12))) (e2 powP (eC (.int 10)) (eC (.int 30))))) (bSeq (sSet 2 (eD lstP (aCons (eD tupP (aCons (eC (.int 1)) (aCons (eV 1) aNil))) (aCons (eC (.str "1, 2")) (aCons (eC .non) (aCons (eC (.bl true)) (aCons (eV 1) (aCons (eD lstP aNil) (aCons (eD lstP (aCons (e2 addP (eC (.int 1)) (eVo 1)) aNil)) (aCons (eD lstP (aCons (eV 1) (aCons (eC (.int 1)) (aCons (eC (.int 0)) aNil)))) (aCons (e2 addP (e2 repL (eD lstP (aCons (eC (.int 1)) aNil)) (eC (.int 9))) (eD lstP (aCons (e2 addP (eC (.int 1)) (eVo 1)) aNil))) aNil))))))))))) (bSeq (sRet (e2 ixP (e2 addP (eVo 2) (eD lstP (aCons (eD lstP (aCons (eV 1) (aCons (eC (.bl true)) aNil))) (aCons (eD lstP (aCons (eV 1) (aCons (eC (.str "1")) aNil))) (aCons (eD lstP (aCons (eD tupP (aCons (eV 1) (aCons (eC (.int 1)) aNil))) (aCons (eC (.int 2)) aNil))) aNil))))) (e2 modP (eVo 0) (eC (.int 12))))) bNil)))
noncomputable def F__law_odd : List PV → R PV := runF 3 D__law_odd
noncomputable def D__law_refused : Rho → Out := (bSeq (sSetO 3 (eD lstP aNil)) (bSeq (sTry 4 csL (bSeq (sIf (tB1 (e2 eqP (eVo 0) (eC (.int 0)))) (bSeq (sDrop (eD F_slope_of (aCons (eV 1) aNil))) bNil) (bSeq (sIf (tB1 (e2 eqP (eVo 0) (eC (.int 1)))) (bSeq (sDrop (eD F_product_of (aCons (eV 1) (aCons (eV 2) aNil)))) bNil) (bSeq (sDrop (eD F_product_of (aCons (eV 2) (aCons (eV 1) aNil)))) bNil)) bNil)) bNil) (fun c a => (bSeq (sSetO 3 (eD lstP (aCons (isX 4 a (subX c "ValueError")) (aCons (isX 4 a (subX c "NoPolynomial")) (aCons (isX 4 a (List.any (["NoPrime", "NoFraction", "NoPlace"] : List Str) (subX c))) aNil))))) (bSeq (sMut 3 appP (isX 4 a (List.any (["NoFigures", "NoText", "Unlike", "NoQuotient", "NoPower", "TooFew"] : List Str) (subX c)))) (bSeq (sMut 3 appP (isX 4 a (List.any (["NoSize", "NoDepth", "NoRoot", "NotNear"] : List Str) (subX c)))) bNil))))) (bSeq (sRet (e2 eqP (eVo 3) (eD lstP (aCons (eC (.bl true)) (aCons (eC (.bl true)) (aCons (eC (.bl false)) (aCons (eC (.bl false)) (aCons (eC (.bl false)) aNil)))))))) bNil)))
noncomputable def F__law_refused : List PV → R PV := runF 5 D__law_refused
noncomputable def D_law : Rho → Out := (bSeq (sSet 1 (eD F__law_list (aCons (eLc [10] (iR rng1 (aCons (e2 addP (eC (.int 1)) (e2 modP (eD F__law_cell_at (aCons (eV 0) (aCons (eC (.int 0)) aNil))) (eC (.int 9)))) aNil)) (gN 10) cYes (eD F__law_cell_at (aCons (eV 0) (aCons (e2 addP (eC (.int 1)) (eVo 10)) aNil)))) aNil))) (bSeq (sSet 2 (eD F__law_part (aCons (eD F__law_cell_at (aCons (eV 0) (aCons (eC (.int 10)) aNil))) (aCons (eD F__law_cell_at (aCons (eV 0) (aCons (eC (.int 11)) aNil))) aNil)))) (bSeq (sSet 3 (eD F_is_poly (aCons (eV 1) aNil))) (bSeq (sIf (tOr' (tNt (tB1 (eD F__law_worth_right (aCons (eV 1) (aCons (eV 2) aNil))))) (tOr' (tNt (tB1 (e1 (isiP "bool") (eVo 3)))) (tB1 (e2 neP (eVo 3) (e2 gtP (eD lenP (aCons (eVo 1) aNil)) (eC (.int 1))))))) (bSeq (sRet (eC (.bl false))) bNil) bNil) (bSeq (sIf (tOr' (tNt (tB1 (eD F__law_worth_right (aCons (eSl slP (e2 addP (eVo 1) (eD lstP (aCons (eC (.int 0)) aNil))) oNone (oSome (eC (.int 9)))) (aCons (eV 2) aNil))))) (tNt (tB1 (eD F__law_worth_right (aCons (eD lstP (aCons (eC (.int 0)) aNil)) (aCons (eV 2) aNil)))))) (bSeq (sRet (eC (.bl false))) bNil) bNil) (bSeq (sSet 4 (eSl slP (e2 addP (eD lstP (aCons (eC (.int 7)) aNil)) (eVo 1)) (oSome (e1 negP (eC (.int 5)))) oNone)) (bSeq (sSet 5 (eD F__law_list (aCons (eLc [10] (iR rng1 (aCons (e2 addP (eC (.int 2)) (e2 modP (eD F__law_cell_at (aCons (eV 0) (aCons (eC (.int 12)) aNil))) (eC (.int 4)))) aNil)) (gN 10) cYes (eD F__law_cell_at (aCons (eV 0) (aCons (e2 addP (eC (.int 13)) (eVo 10)) aNil)))) aNil))) (bSeq (sSet 6 (eD lstP (aCons (eD listP (aCons (eVo 4) aNil)) (aCons (eD listP (aCons (eVo 5) aNil)) aNil)))) (bSeq (sSetO 7 (eD F_slope_of (aCons (eV 4) aNil))) (bSeq (sIf (tOr' (tNt (tB1 (eD (lendF false F__law_row_right) (aCons (eVo 7) (aCons (eLc [10] (iR rng2 (aCons (eC (.int 1)) (aCons (eD lenP (aCons (eVo 4) aNil)) aNil))) (gN 10) cYes (e2 mulP (eVo 10) (e2 ixP (eVo 4) (eVo 10)))) aNil))))) (tNt (tB1 (eD (lendF false F__law_worth_right) (aCons (eVo 7) (aCons (eVo 2) aNil)))))) (bSeq (sRet (eC (.bl false))) bNil) bNil) (bSeq (sMut 7 appP (eC (.int 5))) (bSeq (sSet 8 (eD F__law_product (aCons (eV 4) (aCons (eV 5) aNil)))) (bSeq (sSetO 9 (eD F_product_of (aCons (eV 4) (aCons (eV 5) aNil)))) (bSeq (sIf (tNt (tB1 (eD (lendF false F__law_row_right) (aCons (eVo 9) (aCons (eVo 8) aNil))))) (bSeq (sRet (eC (.bl false))) bNil) bNil) (bSeq (sMut 9 appP (eC (.int 5))) (bSeq (sIf (tNt (tB1 (eD F__law_row_right (aCons (eD F_product_of (aCons (eV 5) (aCons (eV 4) aNil))) (aCons (eV 8) aNil))))) (bSeq (sRet (eC (.bl false))) bNil) bNil) (bSeq (sIf (tOr' (tNt (tB1 (eD F__law_row_right (aCons (eD F_product_of (aCons (eV 4) (aCons (eV 4) aNil))) (aCons (eD F__law_product (aCons (eV 4) (aCons (eV 4) aNil))) aNil))))) (tB1 (e2 neP (eD lstP (aCons (eV 4) (aCons (eV 5) aNil))) (eVo 6)))) (bSeq (sRet (eC (.bl false))) bNil) bNil) (bSeq (sFor (iR rng2 (aCons (eC (.int 19)) (aCons (eD maxP (aCons (eC (.int 20)) (aCons (eD minP (aCons (eD lenP (aCons (eVo 0) aNil)) (aCons (eC (.int 43)) aNil))) aNil))) aNil))) (gN 10) (bSeq (sSet 11 (eD F__law_cell_at (aCons (eV 0) (aCons (eV 10) aNil)))) (bSeq (sSet 12 (eD F__law_odd (aCons (eV 11) aNil))) (bSeq (sIf (tOr' (tB1 (e2 notBP (eD F_is_poly (aCons (eV 12) aNil)) (eC (.bl false)))) (tNt (tB1 (eD F__law_refused (aCons (e2 modP (e2 fdivP (eVo 11) (eC (.int 12))) (eC (.int 3))) (aCons (eV 12) (aCons (eV 5) aNil))))))) (bSeq (sRet (eC (.bl false))) bNil) bNil) bNil)))) (bSeq (sRet (eAn (eD F__law_row_right (aCons (eD F_slope_of (aCons (eV 4) aNil)) (aCons (eLc [10] (iR rng2 (aCons (eC (.int 1)) (aCons (eD lenP (aCons (eVo 4) aNil)) aNil))) (gN 10) cYes (e2 mulP (eVo 10) (e2 ixP (eVo 4) (eVo 10)))) aNil))) (e2 eqP (eD lstP (aCons (eV 4) (aCons (eV 5) aNil))) (eVo 6)))) bNil)))))))))))))))))))
noncomputable def F_law : List PV → R PV := runF 13 D_law
end K61
set_option Elab.async false
set_option linter.all false
set_option maxRecDepth 100000
set_option autoImplicit false
set_option exponentiation.threshold 20000
set_option maxHeartbeats 0
namespace K61
open PySem PySem.Spec L2 PL PM
open PyProof.Rows hiding St
theorem f_cell (ns : List Int) (k : Int) (h : 0 ≤ k) : F__law_cell_at [.frz (ns.map PV.int), .int k] = .ok (.int (nth ns k)) := by
  show (D__law_cell_at [.val (.frz (ns.map PV.int)), .val (.int k)]).res = _
  by_cases hk : k < ns.length
  · simp [D__law_cell_at, hk, ixP_intsF h hk]
  · have : ns[k.toNat]? = none := List.getElem?_eq_none (by omega)
    simp [D__law_cell_at, hk, nth, this]
theorem f_whole (p : PV) : F__law_whole [p] = .ok (.bl (isW p)) := by
  show (D__law_whole [.val p]).res = _
  simp [D__law_whole, whole_eq]
theorem pick {l : List PV} {P : PV → Prop} (k : Int) (h0 : 0 ≤ k) (hk : k < l.length) (h : ∀ q ∈ l, P q) : ∃ q, ixP (.lst l) (.int k) = .ok q ∧ P q := by
  obtain ⟨q, h1, h2⟩ := ixP_ex (ps := l) h0 hk
  exact ⟨q, h2, h q h1⟩
theorem f_number (c : Int) (hc : c.natAbs.log2 < 1048577) : ∃ v : Int, F__law_number [.int c] = .ok (.int v) ∧ v.natAbs < 2 ^ 200 := by
  have d4 := fdivP_sm (a := c) (b := 4) (by omega) (by omega)
  have m4 := modP_pos (a := c) (b := 4) (by omega)
  have cl : (c / 4).natAbs.log2 < 1048577 := log2_le_lt (show (c / 4).natAbs ≤ c.natAbs by omega) hc
  have p12 : powP (.int 10) (.int 12) = .ok (.int 1000000000000) := by rw [powP_sm (by omega) (by omega) (by omega) (by omega)]; rfl
  have p59 : powP (.int 10) (.int 59) = .ok (.int 100000000000000000000000000000000000000000000000000000000000) := by rw [powP_sm (by omega) (by omega) (by omega) (by omega)]; rfl
  have t12 : mulP (.int 2) (.int 1000000000000) = .ok (.int 2000000000000) := mulP_sm (by omega) (by omega) (by omega) (by omega)
  have t59 : mulP (.int 2) (.int 100000000000000000000000000000000000000000000000000000000000) = .ok (.int 200000000000000000000000000000000000000000000000000000000000) := mulP_sm (by omega) (by omega) (by omega) (by omega)
  have q1 : mulP (.int (c / 4)) (.int 982451653) = .ok (.int (c / 4 * 982451653)) := mulP_ii (okMul_log cl (n := 100) (by decide) (by omega))
  have q3 : mulP (.int (c / 4)) (.int 48271) = .ok (.int (c / 4 * 48271)) := mulP_ii (okMul_log cl (n := 100) (by decide) (by omega))
  have r1 := modP_pos (a := c / 4 * 982451653) (b := 2000000000001) (by omega)
  have r3 := modP_pos (a := c / 4 * 48271) (b := 200000000000000000000000000000000000000000000000000000000001) (by omega)
  have r19 := modP_pos (a := c / 4) (b := 19) (by omega)
  have go : ∀ {q : PV}, (D__law_number [.val (.int c), .un]).res = .ok q → F__law_number [.int c] = .ok q := fun h => (runF_eq (n := 2) (u := D__law_number)).trans h
  by_cases h1 : c % 4 = 1
  · exact ⟨_, go (by simp [D__law_number, d4, m4, h1, q1, p12, t12, r1]; rfl), by omega⟩
  · by_cases h3 : c % 4 = 3
    · exact ⟨_, go (by simp [D__law_number, d4, m4, h3, q3, p59, t59, r3]; rfl), by omega⟩
    · exact ⟨_, go (by simp [D__law_number, d4, m4, h1, h3, r19]; rfl), by omega⟩
theorem numbers_lc (x : PV) (s1 : Slot) : ∀ (cs : List Int), (∀ c ∈ cs, c.natAbs.log2 < 1048577) → ∃ as : List Int, lcGo (gN 2) cYes (eD F__law_number (aCons (eV 2) aNil)) [.val x, s1, .un] (cs.map PV.int) = .ok (as.map PV.int) ∧ as.length = cs.length ∧ ∀ a ∈ as, a.natAbs < 2 ^ 200
  | [], _ => ⟨[], rfl, rfl, fun _ h => nomatch h⟩
  | c :: cs, h => by
    obtain ⟨as, i, l, b⟩ := numbers_lc x s1 cs (fun q hq => h q (List.mem_cons_of_mem _ hq))
    obtain ⟨v, V, vb⟩ := f_number c (h c List.mem_cons_self)
    refine ⟨v :: as, ?_, by rw [List.length_cons, List.length_cons, l], fun a ha => ?_⟩
    · rw [List.map_cons, lcGo, gN_eq]
      dsimp only [cYes, List.set_cons_succ, List.set_cons_zero]
      rw [show eD F__law_number (aCons (eV 2) aNil) [.val x, s1, .val (.int c)] = .ok (.int v) by simp only [eD_eq, aCons_eq, aNil_eq, eV0, eVs, bind1, V]]
      dsimp only
      have i' : lcGo (gN 2) cYes (eD F__law_number (aCons (eV 2) aNil)) [.val x, s1, .un] (cs.map PV.int) = .ok (as.map PV.int) := i
      rw [i', List.map_cons]
    · rcases List.mem_cons.mp ha with rfl | ha
      · exact vb
      · exact b a ha
theorem f_list (cs : List Int) (h1 : 1 ≤ cs.length) (hl : cs.length ≤ 100) (hc : ∀ c ∈ cs, c.natAbs.log2 < 1048577) : ∃ as : List Int, F__law_list [.lst (cs.map PV.int)] = .ok (.lst (as.map PV.int)) ∧ as.length = cs.length ∧ as.getLast? ≠ some 0 ∧ ∀ a ∈ as, a.natAbs < 2 ^ 200 := by
  obtain ⟨as, i, al, ab⟩ := numbers_lc (.lst (cs.map PV.int)) .un cs hc
  have L := eLc_ok (vs := [2]) (it := iS (eV 0)) (ρ := [.val (.lst (cs.map PV.int)), .un, .un]) (items := cs.map PV.int) rfl (by simp) (by rw [List.length_map]; omega) i
  have hn : as ≠ [] := fun z => by rw [z] at al; simp at al; omega
  obtain ⟨l, y, hly⟩ : ∃ l y, as = l ++ [y] := ⟨as.dropLast, as.getLast hn, (List.dropLast_concat_getLast hn).symm⟩
  have go : ∀ {o : R PV}, (D__law_list [.val (.lst (cs.map PV.int)), .un, .un]).res = o → F__law_list [.lst (cs.map PV.int)] = o := fun h => (runF_eq (n := 3) (u := D__law_list)).trans h
  have t0 : lstP [] = .ok (.lst []) := lstP_ok (by simp)
  have lx : ixP (.lst ((l ++ [y]).map PV.int)) (.int (-1)) = .ok (.int y) := by rw [List.map_append]; exact ixP_last _ _
  have ne : neP (.lst ((l ++ [y]).map PV.int)) (.lst []) = .ok (.bl true) := by
    rw [neP_ok (by simp [okD]) (by simp [okD])]
    cases l with
    | nil => simp [eqV', eqVs]
    | cons q l => simp [eqV', eqVs]
  rw [hly] at al ab L
  obtain ⟨X, hX⟩ : ∃ X, X = PV.lst (cs.map PV.int) := ⟨_, rfl⟩
  rw [← hX] at go L
  rw [← hX]
  by_cases hy : y = 0
  · have sp : setP ((l ++ [y]).map PV.int) (.int 1) (.int (-1)) = .ok ((l ++ [1]).map PV.int) := by
      have e : ixN ((l ++ [y]).map PV.int).length (-1) = some l.length := by
        unfold ixN
        rw [if_neg (by omega), List.length_map, List.length_append, List.length_singleton, if_pos (by omega)]
        exact congrArg some (by omega)
      unfold setP
      dsimp only
      rw [e]
      simp
    refine ⟨l ++ [1], go ?_, by simpa using al, by simp, fun a ha => ?_⟩
    · have y' : (y == 0) = true := by simpa using hy
      unfold D__law_list
      refine stpN (ρ' := [.val X, .own ((l ++ [y]).map PV.int), .un]) (by rw [sSetO_eq, L, st_ok]; rfl) ?_
      refine stpN (ρ' := [.val X, .own ((l ++ [1]).map PV.int), .un]) (by
        simp only [sIf_eq, tAn_eq, tB1_eq, e2_eq, e1_eq, eD_eq, aNil_eq, eC_eq, eVo0', eVos, bind1, t0, ne, negP_eq, lx, eqP_ii, y', asB_eq, stB_ok, if_true, bSeq_eq, sSetI_eq, getOwn0, getOwnS, onOwn_some, st_ok, sp, own_ok, List.set_cons_succ, List.set_cons_zero, then_next, bNil_eq]) ?_
      simp
    · rcases List.mem_append.mp ha with ha | ha
      · exact ab a (List.mem_append_left _ ha)
      · rw [List.mem_singleton.mp ha]; decide
  · have y' : (y == 0) = false := by simpa using hy
    refine ⟨l ++ [y], go ?_, al, by simpa using hy, ab⟩
    unfold D__law_list
    refine stpN (ρ' := [.val X, .own ((l ++ [y]).map PV.int), .un]) (by rw [sSetO_eq, L, st_ok]; rfl) ?_
    refine skp (by
      simp only [tAn_eq, tB1_eq, e2_eq, e1_eq, eD_eq, aNil_eq, eC_eq, eVo0', eVos, bind1, t0, ne, negP_eq, lx, eqP_ii, y', asB_eq, if_true]) ?_
    simp
theorem f_divisor_2 (a b : Int) : F__law_divisor [.int a, .int b] = .ok (.int (Int.gcd a b)) := by
  refine (runF_eq (n := 2) (u := D__law_divisor)).trans ?_
  show (D__law_divisor [.val (.int a), .val (.int b)]).res = _
  have r := gcd_run (tB1 (e2 gtP (eVo 1) (eC (.int 0)))) (fun x y => by
    have q : decide ((0 : Int) < (y : Int)) = decide (y ≠ 0) := by rw [decide_eq_decide]; omega
    simp only [tB1_eq, e2_eq, eVos, eVo0, eC_eq, bind1, gtP_ii, asB_eq, q]) b.natAbs a.natAbs
  rw [gcd_of_neg] at r
  simp only [D__law_divisor, bSeq_eq, sSet_eq, eD_eq, aCons_eq, aNil_eq, eVos, eVo0, bind1, absP_i, st_ok, List.set_cons_succ, List.set_cons_zero, r, then_next, sRet_eq, eV0, then_ret, res_ret]
theorem f_part (x y : Int) : ∃ t b : Int, F__law_part [.int x, .int y] = .ok (fracV t b) ∧ 1 ≤ b ∧ t.natAbs < 2 ^ 100 ∧ b.natAbs < 2 ^ 100 := by
  have m4 := modP_pos (a := x) (b := 4) (by omega)
  have d4 := fdivP_sm (a := x) (b := 4) (by omega) (by omega)
  have p29 : powP (.int 10) (.int 29) = .ok (.int 100000000000000000000000000000) := by rw [powP_sm (by omega) (by omega) (by omega) (by omega)]; rfl
  have t29 : mulP (.int 2) (.int 100000000000000000000000000000) = .ok (.int 200000000000000000000000000000) := mulP_sm (by omega) (by omega) (by omega) (by omega)
  have m1 := modP_pos (a := x / 4) (b := 200000000000000000000000000001) (by omega)
  have m2 := modP_pos (a := y) (b := 100000000000000000000000000000) (by omega)
  have m3 := modP_pos (a := x / 4) (b := 41) (by omega)
  have m5 := modP_pos (a := y) (b := 12) (by omega)
  obtain ⟨u, v, U, ub, v1, vb⟩ : ∃ u v : Int, (∀ s2, (sIf (tB1 (e2 eqP (e2 modP (eVo 0) (eC (.int 4))) (eC (.int 1)))) (bSeq (sSet 0 (e2 subP (e2 modP (e2 fdivP (eVo 0) (eC (.int 4))) (e2 addP (e2 mulP (eC (.int 2)) (e2 powP (eC (.int 10)) (eC (.int 29)))) (eC (.int 1)))) (e2 powP (eC (.int 10)) (eC (.int 29))))) (bSeq (sSet 1 (e2 addP (eC (.int 1)) (e2 modP (eVo 1) (e2 powP (eC (.int 10)) (eC (.int 29)))))) bNil)) (bSeq (sSet 0 (e2 subP (e2 modP (e2 fdivP (eVo 0) (eC (.int 4))) (eC (.int 41))) (eC (.int 20)))) (bSeq (sSet 1 (e2 addP (eC (.int 1)) (e2 modP (eVo 1) (eC (.int 12))))) bNil))) [.val (.int x), .val (.int y), s2] = .next [.val (.int u), .val (.int v), s2]) ∧ u.natAbs < 2 ^ 100 ∧ 1 ≤ v ∧ v.natAbs < 2 ^ 100 := by
    by_cases h : x % 4 = 1
    · have h' : (x % 4 == 1) = true := by simpa using h
      refine ⟨x / 4 % 200000000000000000000000000001 - 100000000000000000000000000000, 1 + y % 100000000000000000000000000000, fun s2 => ?_, by omega, by omega, by omega⟩
      simp only [sIf_eq, tB1_eq, e2_eq, eC_eq, eVos, eVo0, bind1, m4, eqP_ii, h', asB_eq, stB_ok, if_true, bSeq_eq, sSet_eq, d4, p29, t29, addP_ii, show (200000000000000000000000000000 : Int) + 1 = 200000000000000000000000000001 from rfl, m1, subP_ii, st_ok, List.set_cons_succ, List.set_cons_zero, then_next, m2, bNil_eq]
    · have h' : (x % 4 == 1) = false := by simpa using h
      refine ⟨x / 4 % 41 - 20, 1 + y % 12, fun s2 => ?_, by omega, by omega, by omega⟩
      simp only [sIf_eq, tB1_eq, e2_eq, eC_eq, eVos, eVo0, bind1, m4, eqP_ii, h', asB_eq, stB_ok, if_neg Bool.false_ne_true, bSeq_eq, sSet_eq, d4, m3, subP_ii, st_ok, List.set_cons_succ, List.set_cons_zero, then_next, m5, addP_ii, bNil_eq]
  have vn : v ≠ 0 := by omega
  have g0 : 0 < Int.gcd u v := gcd_pos vn
  have fsv : fs u v = Int.gcd u v := by unfold fs; rw [if_neg (by omega)]
  have gl : (Int.gcd u v : Int) ≤ v := Int.le_of_dvd (by omega) (Int.gcd_dvd_right u v)
  have f1 := fdivP_pos (a := u) (b := (Int.gcd u v : Int)) (by omega) (by omega)
  have f2 := fdivP_pos (a := v) (b := (Int.gcd u v : Int)) (by omega) (by omega)
  have t2 : tupP [.int (u / (Int.gcd u v : Int)), .int (v / (Int.gcd u v : Int))] = .ok (fracV (ftop u v) (fbot u v)) := by unfold ftop fbot; rw [fsv]; exact tupP_ok (by simp)
  refine ⟨ftop u v, fbot u v, ?_, fbot_pos vn, Nat.lt_of_le_of_lt (ftop_le vn) ub, Nat.lt_of_le_of_lt (fbot_le vn) vb⟩
  refine (runF_eq (n := 3) (u := D__law_part)).trans ?_
  show (D__law_part [.val (.int x), .val (.int y), .un]).res = _
  unfold D__law_part
  refine stpN (U .un) ?_
  refine stp (.int (Int.gcd u v)) (by simp only [eD_eq, aCons_eq, aNil_eq, eV0, eVs, bind1, f_divisor_2]) ?_
  simp only [List.set_cons_succ, List.set_cons_zero]
  simp only [bSeq_eq, sRet_eq, e2_eq, eD_eq, aCons_eq, aNil_eq, eVos, eVo0, bind1, f1, f2, t2, st_ok, then_ret, res_ret]
theorem due_loop {t b : Int} (x y z : PV) (hb : 1 ≤ b) (tz : t.natAbs < 2 ^ 100) (bz : b.natAbs < 2 ^ 100) : ∀ (l done : List Int) (s6 s7 : Slot), (∀ c ∈ l, c.natAbs < 2 ^ 230) → (∀ c ∈ done, c.natAbs < 2 ^ 230) → done.length + l.length ≤ 10 → (hor t b done).1.natAbs < 2 ^ (340 * done.length + 1) →
    ∃ s6', forL (gN 6) (bSeq (sSet 4 (e2 addP (e2 mulP (eVo 4) (eVo 2)) (e2 mulP (eVo 6) (eVo 5)))) (bSeq (sSet 5 (e2 mulP (eVo 5) (eVo 3))) bNil)) (l.map PV.int) [.val x, .val y, .val (.int t), .val (.int b), .val (.int (hor t b done).1), .val (.int (b ^ done.length)), s6, s7] = .next [.val x, .val y, .val (.int t), .val (.int b), .val (.int (hor t b (l.reverse ++ done)).1), .val (.int (b ^ (done.length + l.length))), s6', s7] ∧ (hor t b (l.reverse ++ done)).1.natAbs < 2 ^ (340 * (done.length + l.length) + 1)
  | [], done, s6, s7, _, _, _, h => ⟨s6, by rw [List.map_nil, forL_nil]; simp, by simpa using h⟩
  | c :: l, done, s6, s7, hc, hd, hl, h => by
    rw [List.length_cons] at hl
    have bp : (b ^ done.length).natAbs < 2 ^ (100 * done.length + 1) := pow_bound bz _
    have e : (hor t b (c :: done)).1 = (hor t b done).1 * t + c * b ^ done.length := by rw [hor, hor_len]
    have sz : (hor t b (c :: done)).1.natAbs < 2 ^ (340 * (c :: done).length + 1) := by
      rw [e, List.length_cons]
      exact add_lt (mul_lt h tz (Nat.le_refl _)) (mul_lt (hc c List.mem_cons_self) bp (Nat.le_refl _)) (by omega) (by omega)
    obtain ⟨s6', i, w⟩ := due_loop x y z hb tz bz l (c :: done) (.val (.int c)) s7 (fun q hq => hc q (List.mem_cons_of_mem _ hq)) (fun q hq => by
      rcases List.mem_cons.mp hq with rfl | hq
      · exact hc q List.mem_cons_self
      · exact hd q hq) (by rw [List.length_cons]; omega) sz
    have m1 : mulP (.int (hor t b done).1) (.int t) = .ok (.int ((hor t b done).1 * t)) := mulP_ii (okMul_of (sz_le h (show 340 * done.length + 1 ≤ 4000 by omega)) tz (by omega) (by omega) (by omega))
    have m2 : mulP (.int c) (.int (b ^ done.length)) = .ok (.int (c * b ^ done.length)) := mulP_ii (okMul_of (hc c List.mem_cons_self) (sz_le bp (show 100 * done.length + 1 ≤ 4000 by omega)) (by omega) (by omega) (by omega))
    have m3 : mulP (.int (b ^ done.length)) (.int b) = .ok (.int (b ^ (c :: done).length)) := by rw [mulP_ii (okMul_of (sz_le bp (show 100 * done.length + 1 ≤ 4000 by omega)) bz (by omega) (by omega) (by omega)), List.length_cons, Int.pow_succ]
    rw [List.length_cons] at i w
    refine ⟨s6', ?_, ?_⟩
    · rw [List.map_cons, forL_cons, gN_eq, onR_some]
      rw [show (c :: l).reverse ++ done = l.reverse ++ c :: done by simp, show done.length + (c :: l).length = done.length + 1 + l.length by rw [List.length_cons]; omega, ← i]
      simp only [List.set_cons_succ, List.set_cons_zero, bSeq_eq, sSet_eq, e2_eq, eVos, eVo0, bind1, m1, m2, addP_ii, ← e, st_ok, then_next, m3, List.length_cons, bNil_eq, fo_next]
    · rw [show (c :: l).reverse ++ done = l.reverse ++ c :: done by simp, show done.length + (c :: l).length = done.length + 1 + l.length by rw [List.length_cons]; omega]
      exact w
theorem f_worth_right {t b : Int} (hb : 1 ≤ b) (tz : t.natAbs < 2 ^ 100) (bz : b.natAbs < 2 ^ 100) (l : List Int) (hc : ∀ c ∈ l, c.natAbs < 2 ^ 230) (h1 : 1 ≤ l.length) (hl : l.length ≤ 10) : F__law_worth_right [.lst (l.map PV.int), fracV t b] = .ok (.bl true) := by
  obtain ⟨X, hX⟩ : ∃ X, X = PV.lst (l.map PV.int) := ⟨_, rfl⟩
  obtain ⟨s6, i, w⟩ := due_loop X (fracV t b) .non hb tz bz l.reverse [] .un .un (fun c h => hc c (List.mem_reverse.mp h)) (fun _ h => nomatch h) (by simp; omega) (by simp [hor])
  rw [List.reverse_reverse, List.append_nil, List.length_reverse, List.length_nil, Nat.zero_add] at i w
  rw [List.map_reverse] at i
  rw [Int.pow_zero, show (hor t b []).1 = 0 from rfl] at i
  obtain ⟨N, D, WA, wr⟩ := f_worth_at hb tz bz l hc hl
  rw [← hX] at WA
  have fb : fdivP (.int (b ^ l.length)) (.int b) = .ok (.int (b ^ (l.length - 1))) := by
    obtain ⟨k, hk⟩ : ∃ k, l.length = k + 1 := ⟨l.length - 1, by omega⟩
    rw [fdivP_pos (by omega) (by omega), hk, Int.pow_succ, Int.mul_ediv_cancel _ (by omega)]; rfl
  have g : gT (gsCons (gN 2) (gsCons (gN 3) gsNil)) (fracV t b) [.val X, .val (fracV t b), .un, .un, .un, .un, .un, .un] = some [.val X, .val (fracV t b), .val (.int t), .val (.int b), .un, .un, .un, .un] := rfl
  have it : isiP "tuple" (fracV N D) = .ok (.bl true) := by rw [isi_tuple]; rfl
  have ln : lenP [fracV N D] = .ok (.int 2) := rfl
  have x0 : ixP (fracV N D) (.int 0) = .ok (.int N) := rfl
  have x1 : ixP (fracV N D) (.int 1) = .ok (.int D) := rfl
  have wi : ∀ z : Int, F__law_whole [.int z] = .ok (.bl true) := fun z => by rw [f_whole]; rfl
  have Dp : decide (D > 0) = true := decide_eq_true wr.pos
  have gd := f_divisor_2 N D
  rw [wr.low] at gd
  have bp : (b ^ (l.length - 1)).natAbs < 2 ^ 4000 := sz_le (pow_bound bz _) (by omega)
  have m1 : mulP (.int N) (.int (b ^ (l.length - 1))) = .ok (.int (N * b ^ (l.length - 1))) := mulP_ii (okMul_of (sz_le wr.szN (show 340 * l.length + 1 ≤ 4000 by omega)) bp (by omega) (by omega) (by omega))
  have m2 : mulP (.int (hor t b l).1) (.int D) = .ok (.int ((hor t b l).1 * D)) := mulP_ii (okMul_of (sz_le w (show 340 * l.length + 1 ≤ 4000 by omega)) (sz_le wr.szD (show 100 * l.length + 1 ≤ 4000 by omega)) (by omega) (by omega) (by omega))
  have eq := wr.eq
  have ee : (N * b ^ (l.length - 1) == (hor t b l).1 * D) = true := by rw [eq]; exact beq_self_eq_true _
  rw [← hX]
  refine (runF_eq (n := 8) (u := D__law_worth_right)).trans ?_
  show (D__law_worth_right [.val X, .val (fracV t b), .un, .un, .un, .un, .un, .un]).res = _
  unfold D__law_worth_right
  refine stpN (by simp only [sTo_eq, eVs, eV0, st_ok, g]; rfl) ?_
  refine stp (.int 0) (by simp only [eC_eq]) ?_
  simp only [List.set_cons_succ, List.set_cons_zero]
  refine stp (.int 1) (by simp only [eC_eq]) ?_
  simp only [List.set_cons_succ, List.set_cons_zero]
  refine stpFor (l.map PV.int).reverse _ (by simp only [iRv_eq, eV0, bind1, hX]; rfl) i ?_
  refine stp (.int (b ^ (l.length - 1))) (by simp only [e2_eq, eVos, eVo0, bind1, fb]) ?_
  simp only [List.set_cons_succ, List.set_cons_zero]
  refine stp (fracV N D) (by simp only [eD_eq, aCons_eq, aNil_eq, eV0, eVs, bind1, WA]) ?_
  simp only [List.set_cons_succ, List.set_cons_zero]
  refine skp (by simp only [tOr_eq, tNt_eq, tB1_eq, e1_eq, e2_eq, eD_eq, aCons_eq, aNil_eq, eC_eq, eVos, eVo0, bind1, it, ln, neP_ii, show (!((2 : Int) == 2)) = false from rfl, x0, x1, wi, asB_eq, Bool.not_true, if_neg Bool.false_ne_true]) ?_
  simp only [bSeq_eq, sRet_eq, eAn_eq, e2_eq, eD_eq, aCons_eq, aNil_eq, eC_eq, eVos, eVo0, bind1, x0, x1, gtP_ii, Dp, gd, eqP_ii, m1, m2, ee, show (((1 : Nat) : Int) == 1) = true from rfl, asB_eq, if_true, st_ok, then_ret, res_ret]
theorem f_row_right (l : List Int) (hl : l.length ≤ 1000) : F__law_row_right [.lst (l.map PV.int), .lst (l.map PV.int)] = .ok (.bl true) := by
  obtain ⟨X, hX⟩ : ∃ X, X = PV.lst (l.map PV.int) := ⟨_, rfl⟩
  have go : lcGo (gN 2) cYes (eD F__law_whole (aCons (eV 2) aNil)) [.val X, .val X, .un] (l.map PV.int) = .ok ((l.map PV.int).map fun _ => PV.bl true) := by
    refine lcGo_map _ _ fun q hq => ⟨_, rfl, ?_⟩
    obtain ⟨d, _, rfl⟩ := List.mem_map.mp hq
    simp [f_whole, isW]
  have L := eLc_ok (vs := [2]) (it := iS (eV 0)) (ρ := [.val X, .val X, .un]) (items := l.map PV.int) rfl (by rw [hX]; simp) (by rw [List.length_map]; omega) go
  have al : allP [.lst ((l.map PV.int).map fun _ => PV.bl true)] = .ok (.bl true) := by
    rw [show ((l.map PV.int).map fun _ => PV.bl true) = (l.map fun _ => true).map PV.bl by simp, allP_bl]
    simp
  have il : isiP "list" X = .ok (.bl true) := by rw [isi_list, hX]; rfl
  have e : eqP X X = .ok (.bl true) := eqP_self (by rw [hX]; simp [okD])
  rw [← hX]
  refine (runF_eq (n := 3) (u := D__law_row_right)).trans ?_
  show (D__law_row_right [.val X, .val X, .un]).res = _
  unfold D__law_row_right
  refine skp (by simp only [tOr_eq, tNt_eq, tB1_eq, e1_eq, eD_eq, aCons_eq, aNil_eq, eVo0, bind1, il, L, al, asB_eq, Bool.not_true, if_neg Bool.false_ne_true]) ?_
  simp only [bSeq_eq, sRet_eq, e2_eq, eVos, eVo0, bind1, e, st_ok, then_ret, res_ret]
theorem row_loop_l {a b : List Int} (x y : PV) (hx : x = .lst (a.map PV.int)) (hy : y = .lst (b.map PV.int)) (k : Nat) (hk : k < a.length) (ha : ∀ c ∈ a, c.natAbs < 2 ^ 300) (hb : ∀ c ∈ b, c.natAbs < 2 ^ 300) (hs : a.length + b.length ≤ 1000) (L : List Int) (h : Part a b L k 0) (s4 : Slot) :
    ∃ (L' : List Int) (s4' : Slot), forL (gN 4) (bSeq (sSetI 2 (e2 addP (e2 ixP (eVo 2) (e2 addP (eVo 3) (eVo 4))) (e2 mulP (e2 ixP (eVo 0) (eVo 3)) (e2 ixP (eVo 1) (eVo 4)))) (e2 addP (eVo 3) (eVo 4))) bNil) (rngL 0 b.length) [.val x, .val y, .own (L.map PV.int), .val (.int k), s4] = .next [.val x, .val y, .own (L'.map PV.int), .val (.int k), s4'] ∧ Part a b L' k b.length := by
  obtain ⟨ρ', i, L', s4', rfl, w⟩ := forL_rng (tgt := gN 4) (body := bSeq (sSetI 2 (e2 addP (e2 ixP (eVo 2) (e2 addP (eVo 3) (eVo 4))) (e2 mulP (e2 ixP (eVo 0) (eVo 3)) (e2 ixP (eVo 1) (eVo 4)))) (e2 addP (eVo 3) (eVo 4))) bNil)
    (fun m ρ => ∃ (L' : List Int) (s4 : Slot), ρ = [.val x, .val y, .own (L'.map PV.int), .val (.int k), s4] ∧ Part a b L' k m) 0 b.length [.val x, .val y, .own (L.map PV.int), .val (.int k), s4] ⟨L, s4, rfl, h⟩ (fun m ρ hm ⟨L, s4, e, h⟩ => by
      subst e
      have L1 := h.1
      have SA : SeqI x a := .inl hx
      have SB : SeqI y b := .inl hy
      have SL : SeqI (.lst (L.map PV.int)) L := .inl rfl
      have ia := SA.ix k hk
      have ib := SB.ix m hm
      have il := SL.ix (k + m) (by omega)
      have am : (a.getD k 0).natAbs < 2 ^ 300 := by rw [List.getD_eq_getElem?_getD, List.getElem?_eq_getElem hk]; exact ha _ (List.getElem_mem hk)
      have bm : (b.getD m 0).natAbs < 2 ^ 300 := by rw [List.getD_eq_getElem?_getD, List.getElem?_eq_getElem hm]; exact hb _ (List.getElem_mem hm)
      have mm : mulP (.int (a.getD k 0)) (.int (b.getD m 0)) = .ok (.int (a.getD k 0 * b.getD m 0)) := mulP_ii (okMul_of am bm (by omega) (by omega) (by omega))
      have sp : setP (L.map PV.int) (.int (L.getD (k + m) 0 + a.getD k 0 * b.getD m 0)) (.int ((k : Int) + (m : Int))) = .ok ((L.set (k + m) (at0 L (k + m) + at0 a k * at0 b m)).map PV.int) := by
        rw [setP_ok (by omega) (by rw [List.length_map]; omega), List.map_set, show ((k : Int) + (m : Int)).toNat = k + m by omega]; rfl
      rw [Int.natCast_add] at il
      refine ⟨_, .inl ?_, _, .val (.int (0 + (m : Int))), rfl, h.next hk hm⟩
      simp only [turnL, gN_eq, List.set_cons_succ, List.set_cons_zero, show (0 : Int) + (m : Int) = m by omega, bSeq_eq, sSetI_eq, getOwn0, getOwnS, onOwn_some, e2_eq, eVos, eVo0, eVo0', bind1, addP_ii, il, ia, ib, mm, st_ok, sp, own_ok, then_next, bNil_eq])
  exact ⟨L', s4', i, w⟩
theorem f_product_l {a b : List Int} (a1 : 1 ≤ a.length) (b1 : 1 ≤ b.length) (hs : a.length + b.length ≤ 1000) (ha : ∀ c ∈ a, c.natAbs < 2 ^ 300) (hb : ∀ c ∈ b, c.natAbs < 2 ^ 300) : F__law_product [.lst (a.map PV.int), .lst (b.map PV.int)] = .ok (.lst ((prodL a b).map PV.int)) := by
  obtain ⟨X, hX⟩ : ∃ X, X = PV.lst (a.map PV.int) := ⟨_, rfl⟩
  obtain ⟨Y, hY⟩ : ∃ Y, Y = PV.lst (b.map PV.int) := ⟨_, rfl⟩
  have l1 : lenP [X] = .ok (.int a.length) := by rw [hX]; simp
  have l2 : lenP [Y] = .ok (.int b.length) := by rw [hY]; simp
  have r1 : rng1 [.int (a.length : Int)] = .ok (rngL 0 a.length) := by rw [rng1_sm (by omega) (by omega)]; rfl
  have r2 : rng1 [.int (b.length : Int)] = .ok (rngL 0 b.length) := by rw [rng1_sm (by omega) (by omega)]; rfl
  have r3 : rng1 [.int ((a.length : Int) + (b.length : Int) - 1)] = .ok (rngL 0 (a.length + b.length - 1)) := by rw [rng1_sm (by omega) (by omega), show ((a.length : Int) + (b.length : Int) - 1).toNat = a.length + b.length - 1 by omega]
  have go : lcGo (gN 3) cYes (eC (.int 0)) [.val X, .val Y, .un, .un, .un] (rngL 0 (a.length + b.length - 1)) = .ok ((rngL 0 (a.length + b.length - 1)).map fun _ => PV.int 0) := lcGo_map _ _ fun q hq => ⟨_, rfl, rfl⟩
  have e0 : ((rngL 0 (a.length + b.length - 1)).map fun _ => PV.int 0) = (List.replicate (a.length + b.length - 1) (0 : Int)).map PV.int := by
    rw [List.map_replicate]
    refine List.eq_replicate_iff.mpr ⟨by rw [List.length_map, rngL_len], fun q hq => ?_⟩
    obtain ⟨_, _, rfl⟩ := List.mem_map.mp hq
    rfl
  rw [e0] at go
  have LC := eLc_ok (vs := [3]) (it := iR rng1 (aCons (e2 subP (e2 addP (eD lenP (aCons (eVo 0) aNil)) (eD lenP (aCons (eVo 1) aNil))) (eC (.int 1))) aNil)) (ρ := [.val X, .val Y, .un, .un, .un]) (items := rngL 0 (a.length + b.length - 1)) rfl (by simp only [iR_eq, e2_eq, eD_eq, aCons_eq, aNil_eq, eC_eq, eVos, eVo0, bind1, l1, l2, addP_ii, subP_ii, r3]) (by rw [rngL_len]; omega) go
  obtain ⟨ρ', i, L', s3, s4, rfl, w⟩ := forL_rng (tgt := gN 3) (body := (bSeq (sFor (iR rng1 (aCons (eD lenP (aCons (eVo 1) aNil)) aNil)) (gN 4) (bSeq (sSetI 2 (e2 addP (e2 ixP (eVo 2) (e2 addP (eVo 3) (eVo 4))) (e2 mulP (e2 ixP (eVo 0) (eVo 3)) (e2 ixP (eVo 1) (eVo 4)))) (e2 addP (eVo 3) (eVo 4))) bNil)) bNil))
    (fun k ρ => ∃ (L' : List Int) (s3 s4 : Slot), ρ = [.val X, .val Y, .own (L'.map PV.int), s3, s4] ∧ Part a b L' k 0) 0 a.length [.val X, .val Y, .own ((List.replicate (a.length + b.length - 1) (0 : Int)).map PV.int), .un, .un] ⟨_, .un, .un, rfl, part_zero a b (by omega)⟩ (fun k ρ hk ⟨L, s3, s4, e, h⟩ => by
      subst e
      obtain ⟨L1, s4', i1, w1⟩ := row_loop_l X Y hX hY k hk ha hb hs L h s4
      refine ⟨_, .inl ?_, L1, .val (.int k), s4', rfl, w1.row⟩
      simp only [turnL, gN_eq, List.set_cons_succ, List.set_cons_zero, show (0 : Int) + (k : Int) = k by omega]
      exact sqF (rngL 0 b.length) (by simp only [iR_eq, eD_eq, aCons_eq, aNil_eq, eVos, eVo0, bind1, l2, r2]) i1 rfl)
  rw [w.done] at i
  rw [← hX, ← hY]
  refine (runF_eq (n := 5) (u := D__law_product)).trans ?_
  show (D__law_product [.val X, .val Y, .un, .un, .un]).res = _
  unfold D__law_product
  refine stpN (ρ' := [.val X, .val Y, .own ((List.replicate (a.length + b.length - 1) (0 : Int)).map PV.int), .un, .un]) (by rw [sSetO_eq, LC, st_ok]; rfl) ?_
  refine stpFor (rngL 0 a.length) _ (by simp only [iR_eq, eD_eq, aCons_eq, aNil_eq, eVo0, bind1, l1, r1]) i ?_
  simp only [bSeq_eq, sRetO_eq, getOwn0, getOwnS, onOwn_some, then_ret, res_ret]
theorem f_odd (c : Int) : ∃ q, F__law_odd [.int c] = .ok q ∧ F_is_poly [q] = .ok (.bl false) := by
  have d12 := fdivP_sm (a := c) (b := 12) (by omega) (by omega)
  have m12 := modP_pos (a := c) (b := 12) (by omega)
  have p30 : powP (.int 10) (.int 30) = .ok (.int 1000000000000000000000000000000) := by rw [powP_sm (by omega) (by omega) (by omega) (by omega)]; rfl
  have m30 := modP_pos (a := c / 12) (b := 1000000000000000000000000000000) (by omega)
  obtain ⟨f, hf⟩ : ∃ f, f = c / 12 % 1000000000000000000000000000000 := ⟨_, rfl⟩
  rw [← hf] at m30
  have l0 : lstP [] = .ok (.lst []) := lstP_ok (by simp)
  have l1 : ∀ a : PV, lstP [a] = .ok (.lst [a]) := fun _ => lstP_ok (by simp)
  have l2 : ∀ a b : PV, lstP [a, b] = .ok (.lst [a, b]) := fun _ _ => lstP_ok (by simp)
  have l3 : ∀ a b c : PV, lstP [a, b, c] = .ok (.lst [a, b, c]) := fun _ _ _ => lstP_ok (by simp)
  have l9 : ∀ a b c d e f g h i : PV, lstP [a, b, c, d, e, f, g, h, i] = .ok (.lst [a, b, c, d, e, f, g, h, i]) := fun _ _ _ _ _ _ _ _ _ => lstP_ok (by simp)
  have t2 : ∀ a b : PV, tupP [a, b] = .ok (.tup [a, b]) := fun _ _ => tupP_ok (by simp)
  have rp : repL (.lst [.int 1]) (.int 9) = .ok (.lst [.int 1, .int 1, .int 1, .int 1, .int 1, .int 1, .int 1, .int 1, .int 1]) := by rw [repL_ok (by omega) (by omega) (by simp)]; rfl
  have ad : addP (.lst [.int 1, .int 1, .int 1, .int 1, .int 1, .int 1, .int 1, .int 1, .int 1]) (.lst [.int (1 + f)]) = .ok (.lst [.int 1, .int 1, .int 1, .int 1, .int 1, .int 1, .int 1, .int 1, .int 1, .int (1 + f)]) := addP_ok (by simp)
  obtain ⟨E, hE⟩ : ∃ E, E = PV.lst [.int 1, .int 1, .int 1, .int 1, .int 1, .int 1, .int 1, .int 1, .int 1, .int (1 + f)] := ⟨_, rfl⟩
  rw [← hE] at ad
  have ad2 : addP (.lst [.tup [.int 1, .int f], .str "1, 2", .non, .bl true, .int f, .lst [], .lst [.int (1 + f)], .lst [.int f, .int 1, .int 0], E]) (.lst [.lst [.int f, .bl true], .lst [.int f, .str "1"], .lst [.tup [.int f, .int 1], .int 2]]) = .ok (.lst [.tup [.int 1, .int f], .str "1, 2", .non, .bl true, .int f, .lst [], .lst [.int (1 + f)], .lst [.int f, .int 1, .int 0], E, .lst [.int f, .bl true], .lst [.int f, .str "1"], .lst [.tup [.int f, .int 1], .int 2]]) := addP_ok (by simp)
  obtain ⟨q, q1, q2⟩ := pick (l := [.tup [.int 1, .int f], .str "1, 2", .non, .bl true, .int f, .lst [], .lst [.int (1 + f)], .lst [.int f, .int 1, .int 0], E, .lst [.int f, .bl true], .lst [.int f, .str "1"], .lst [.tup [.int f, .int 1], .int 2]]) (P := fun q => F_is_poly [q] = .ok (.bl false)) (c % 12) (by omega) (by simp only [List.length_cons, List.length_nil]; omega)
    (fa_cons (poly_no _ rfl) (fa_cons (poly_no _ rfl) (fa_cons (poly_no _ rfl) (fa_cons (poly_no _ rfl) (fa_cons (poly_no _ rfl) (fa_cons (poly_len _ (.inl (by simp))) (fa_cons (poly_len _ (.inl (by simp))) (fa_cons (f_is_poly_i [f, 1, 0] (by simp) (by simp)) (fa_cons (by rw [hE]; exact poly_len _ (.inr (by simp))) (fa_cons (poly_bad _ (by simp) (by simp) rfl) (fa_cons (poly_bad _ (by simp) (by simp) rfl) (fa_cons (poly_bad _ (by simp) (by simp) rfl) fa_nil))))))))))))
  refine ⟨q, ?_, q2⟩
  refine (runF_eq (n := 3) (u := D__law_odd)).trans ?_
  show (D__law_odd [.val (.int c), .un, .un]).res = _
  simp only [D__law_odd, bSeq_eq, sSet_eq, sRet_eq, e2_eq, eD_eq, aCons_eq, aNil_eq, eC_eq, eV0, eVs, eVos, eVo0, bind1, d12, p30, m30, st_ok, List.set_cons_succ, List.set_cons_zero, then_next, l0, l1, l2, l3, t2, addP_ii, rp, ad, l9, ad2, m12, q1, then_ret, res_ret]
theorem f_refused (w : Int) (x y : PV) (hw : w = 0 ∨ w = 1 ∨ w = 2) (hx : F_is_poly [x] = .ok (.bl false)) (hy : F_is_poly [y] = .ok (.bl true)) : F__law_refused [.int w, x, y] = .ok (.bl true) := by
  refine (runF_eq (n := 5) (u := D__law_refused)).trans ?_
  show (D__law_refused [.val (.int w), .val x, .val y, .un, .un]).res = _
  have l0 : lstP [] = .ok (.lst []) := lstP_ok (by simp)
  have l3 : ∀ a b c : PV, lstP [a, b, c] = .ok (.lst [a, b, c]) := fun _ _ _ => lstP_ok (by simp)
  have l5 : ∀ a b c d e : PV, lstP [a, b, c, d, e] = .ok (.lst [a, b, c, d, e]) := fun _ _ _ _ _ => lstP_ok (by simp)
  have ap : ∀ a b c d : PV, appP [a, b, c] d = .ok [a, b, c, d] := fun _ _ _ _ => appP_ok (by simp)
  have ap2 : ∀ a b c d e : PV, appP [a, b, c, d] e = .ok [a, b, c, d, e] := fun _ _ _ _ _ => appP_ok (by simp)
  have s1 := f_slope_no hx
  have s2 := f_product_no (y := y) hx
  have s3 := f_product_no2 hy hx
  have e5 : eqP (.lst [.bl true, .bl true, .bl false, .bl false, .bl false]) (.lst [.bl true, .bl true, .bl false, .bl false, .bl false]) = .ok (.bl true) := eqP_self (by simp [okD])
  unfold D__law_refused
  refine stpN (ρ' := [.val (.int w), .val x, .val y, .own [], .un]) (by simp [l0]) ?_
  refine stpN (ρ' := [.val (.int w), .val x, .val y, .own [.bl true, .bl true, .bl false, .bl false, .bl false], .un]) ?_ ?_
  · refine sTry_exc (c := "NoPolynomial") (ρ' := [.val (.int w), .val x, .val y, .own [], .un]) (by
      rcases hw with rfl | rfl | rfl <;> simp [s1, s2, s3]) (by decide) fun a => ?_
    have x1 : subX "NoPolynomial" "ValueError" = true := by decide +kernel
    have x2 : subX "NoPolynomial" "NoPolynomial" = true := by decide +kernel
    have x3 : List.any (["NoPrime", "NoFraction", "NoPlace"] : List Str) (subX "NoPolynomial") = false := by decide +kernel
    have x4 : List.any (["NoFigures", "NoText", "Unlike", "NoQuotient", "NoPower", "TooFew"] : List Str) (subX "NoPolynomial") = false := by decide +kernel
    have x5 : List.any (["NoSize", "NoDepth", "NoRoot", "NotNear"] : List Str) (subX "NoPolynomial") = false := by decide +kernel
    rw [x1, x2, x3, x4, x5]
    simp only [List.set_cons_succ, List.set_cons_zero, bSeq_eq, sSetO_eq, eD_eq, aCons_eq, aNil_eq, isXs, isX0, bind1, l3, st_ok, asL_l, own_ok, then_next, sMut_eq, getOwn0, getOwnS, onOwn_some, ap, ap2, bNil_eq]
    rfl
  · simp only [bSeq_eq, sRet_eq, e2_eq, eD_eq, aCons_eq, aNil_eq, eC_eq, eVos, eVo0', bind1, l5, e5, st_ok, then_ret, res_ret]
theorem cut_five {α : Type} (l : List α) : cutG l (some (-5)) none = l.drop (l.length - 5) := by
  unfold cutG
  have e : HT.sIx l.length 0 (some (-5)) = l.length - 5 := by
    unfold HT.sIx; dsimp only; rw [if_pos (by omega)]; omega
  rw [e, sIx_none, List.take_of_length_le (by rw [List.length_drop]; omega)]
theorem cells_lc (ns : List Int) (b0 : Int) (h0 : 0 ≤ b0) (a1 a2 a3 a4 a5 a6 a7 a8 a9 s10 a11 a12 : Slot) (n : Nat) : lcGo (gN 10) cYes (eD F__law_cell_at (aCons (eV 0) (aCons (e2 addP (eC (.int b0)) (eVo 10)) aNil))) [.val (.frz (ns.map PV.int)), a1, a2, a3, a4, a5, a6, a7, a8, a9, s10, a11, a12] (rngL 0 n) = .ok (((List.range n).map fun (j : Nat) => nth ns (b0 + (0 + (j : Int)))).map PV.int) := by
  have e : ((List.range n).map fun (j : Nat) => nth ns (b0 + (0 + (j : Int)))).map PV.int = (rngL 0 n).map fun q => match q with | .int j => .int (nth ns (b0 + j)) | q => q := by
    unfold rngL
    rw [List.map_map, List.map_map]
    apply List.map_congr_left
    intro j _
    simp
  rw [e]
  refine lcGo_map _ _ fun q hq => ?_
  unfold rngL at hq
  obtain ⟨j, _, rfl⟩ := List.mem_map.mp hq
  refine ⟨_, rfl, ?_⟩
  simp only [List.set_cons_succ, List.set_cons_zero, e2_eq, eD_eq, aCons_eq, aNil_eq, eC_eq, eV0, eVs, eVos, eVo0, bind1, addP_ii, f_cell ns (b0 + (0 + (j : Int))) (by omega)]
theorem slopes_lc {as : List Int} (hb : ∀ a ∈ as, a.natAbs < 2 ^ 230) (hl : as.length ≤ 1000) (a0 a1 a2 a3 a5 a6 a7 a8 a9 a11 a12 : Slot) : ∀ (r pre : List Int) (s10 : Slot), as = pre ++ r →
    lcGo (gN 10) cYes (e2 mulP (eVo 10) (e2 ixP (eVo 4) (eVo 10))) [a0, a1, a2, a3, .val (.lst (as.map PV.int)), a5, a6, a7, a8, a9, s10, a11, a12] (rngL pre.length r.length) = .ok ((slp pre.length r).map PV.int)
  | [], pre, s10, _ => by rw [List.length_nil]; rfl
  | a :: r, pre, s10, e => by
    have ih := slopes_lc hb hl a0 a1 a2 a3 a5 a6 a7 a8 a9 a11 a12 r (pre ++ [a]) s10 (by rw [e]; simp)
    rw [List.length_append, List.length_singleton] at ih
    have al : as.length = pre.length + r.length + 1 := by rw [e]; simp; omega
    have i : ixP (.lst (as.map PV.int)) (.int (pre.length : Int)) = .ok (.int a) := ixP_lst (by omega) (by rw [e, Int.toNat_natCast, List.getElem?_map, List.getElem?_append_right (by omega), Nat.sub_self]; rfl)
    have m : mulP (.int (pre.length : Int)) (.int a) = .ok (.int (pre.length * a)) := mulP_ii (okMul_of (m := 100) (by omega) (hb a (by rw [e]; simp)) (by omega) (by omega) (by omega))
    rw [List.length_cons, rngL_step, lcGo, gN_eq]
    dsimp only [cYes, List.set_cons_succ, List.set_cons_zero]
    rw [show e2 mulP (eVo 10) (e2 ixP (eVo 4) (eVo 10)) [a0, a1, a2, a3, .val (.lst (as.map PV.int)), a5, a6, a7, a8, a9, .val (.int (pre.length : Int)), a11, a12] = .ok (.int (pre.length * a)) by simp only [e2_eq, eVos, eVo0, bind1, i, m]]
    dsimp only
    rw [show ((pre.length : Nat) : Int) + 1 = ((pre.length + 1 : Nat) : Int) by omega, ih, slp, List.map_cons]
theorem law_true : ∀ ns : List Int, ns.length ≤ 63 → (∀ z ∈ ns, z.natAbs.log2 < 1048577) → F_law [.frz (ns.map PV.int)] = .ok (.bl true) := by
  intro ns hns hbits
  refine (runF_eq (n := 13) (u := D_law)).trans ?_
  show (D_law [.val (.frz (ns.map PV.int)), .un, .un, .un, .un, .un, .un, .un, .un, .un, .un, .un, .un]).res = _
  have hb := nth_log ns hbits
  have fc := fun k h => f_cell ns k h
  obtain ⟨FZ, hFZ⟩ : ∃ FZ, FZ = PV.frz (ns.map PV.int) := ⟨_, rfl⟩
  -- the first list
  have m9 := modP_pos (a := nth ns 0) (b := 9) (by omega)
  obtain ⟨k, hk⟩ : ∃ k : Nat, 1 + nth ns 0 % 9 = k := ⟨(1 + nth ns 0 % 9).toNat, by omega⟩
  have rk : rng1 [.int (k : Int)] = .ok (rngL 0 k) := by rw [rng1_sm (by omega) (by omega)]; rfl
  obtain ⟨cs, hcs⟩ : ∃ cs, cs = (List.range k).map fun (j : Nat) => nth ns (1 + (0 + (j : Int))) := ⟨_, rfl⟩
  have cl : cs.length = k := by rw [hcs]; simp
  obtain ⟨as, A, al, az, ab⟩ := f_list cs (by omega) (by omega) (fun c h => by
    rw [hcs] at h
    obtain ⟨j, _, rfl⟩ := List.mem_map.mp h
    exact hb _)
  have C1 := eLc_ok (vs := [10]) (it := iR rng1 (aCons (e2 addP (eC (.int 1)) (e2 modP (eD F__law_cell_at (aCons (eV 0) (aCons (eC (.int 0)) aNil))) (eC (.int 9)))) aNil)) (ρ := [.val (.frz (ns.map PV.int)), .un, .un, .un, .un, .un, .un, .un, .un, .un, .un, .un, .un]) (items := rngL 0 k) rfl (by simp only [iR_eq, e2_eq, eD_eq, aCons_eq, aNil_eq, eC_eq, eV0, bind1, fc 0 (by omega), m9, addP_ii, hk, rk]) (by rw [rngL_len]; omega) (cells_lc ns 1 (by omega) .un .un .un .un .un .un .un .un .un .un .un .un k)
  rw [← hcs] at C1
  -- the fraction
  obtain ⟨t, b, PT, b1, tz, bz⟩ := f_part (nth ns 10) (nth ns 11)
  have TR : F_is_poly [.lst (as.map PV.int)] = .ok (.bl (decide (1 < as.length))) := by
    rcases Nat.lt_or_ge as.length 2 with g | g
    · rw [poly_len _ (.inl (by rw [List.length_map]; exact g)), decide_eq_false (by omega)]
    · rw [f_is_poly_ok ⟨g, by omega, az⟩, decide_eq_true (by omega)]
  have ab' : ∀ a ∈ as, a.natAbs < 2 ^ 230 := fun a h => Nat.lt_trans (ab a h) (Nat.pow_lt_pow_right (by omega) (by omega))
  have W1 := f_worth_right b1 tz bz as ab' (by omega) (by omega)
  have ap0 : addP (.lst (as.map PV.int)) (.lst [.int 0]) = .ok (.lst ((as ++ [0]).map PV.int)) := by rw [addP_ok (by simp; omega), List.map_append]; rfl
  have sl9 : slP (.lst ((as ++ [0]).map PV.int)) none (some 9) = .ok (.lst (((as ++ [0]).take 9).map PV.int)) := by rw [slP_l, cut_map, cut_take _ 9 (by omega)]; rfl
  have W2 := f_worth_right b1 tz bz ((as ++ [0]).take 9) (fun c h => by
    rcases List.mem_append.mp (List.mem_of_mem_take h) with h | h
    · exact ab' c h
    · rw [List.mem_singleton.mp h]; decide) (by rw [List.length_take, List.length_append, List.length_singleton]; omega) (by rw [List.length_take]; omega)
  have W3 : F__law_worth_right [.lst [.int 0], fracV t b] = .ok (.bl true) := f_worth_right b1 tz bz [0] (by simp) (by simp) (by simp)
  -- the last ones
  obtain ⟨os, hos⟩ : ∃ os, os = (7 :: as).drop ((7 :: as).length - 5) := ⟨_, rfl⟩
  have ol : os.length = min 5 (as.length + 1) := by rw [hos, List.length_drop, List.length_cons]; omega
  have ob : ∀ a ∈ os, a.natAbs < 2 ^ 230 := fun a h => by
    rw [hos] at h
    rcases List.mem_cons.mp ((List.drop_sublist _ _).subset h) with rfl | h
    · decide
    · exact ab' a h
  have oz : os.getLast? ≠ some 0 := by
    rw [hos, List.getLast?_drop, if_neg (by rw [List.length_cons]; omega)]
    cases as with
    | nil => simp at al; omega
    | cons a r => rw [List.getLast?_cons_cons]; exact az
  have oI : PolyI os := ⟨by omega, by omega, oz⟩
  have ap7 : addP (.lst [.int 7]) (.lst (as.map PV.int)) = .ok (.lst ((7 :: as).map PV.int)) := addP_ok (by simp; omega)
  have sl5 : slP (.lst ((7 :: as).map PV.int)) (some (-5)) none = .ok (.lst (os.map PV.int)) := by rw [slP_l, cut_map, cut_five, ← hos]
  -- the other list
  have m4 := modP_pos (a := nth ns 12) (b := 4) (by omega)
  obtain ⟨k', hk'⟩ : ∃ k' : Nat, 2 + nth ns 12 % 4 = k' := ⟨(2 + nth ns 12 % 4).toNat, by omega⟩
  have rk' : rng1 [.int (k' : Int)] = .ok (rngL 0 k') := by rw [rng1_sm (by omega) (by omega)]; rfl
  obtain ⟨ds, hds⟩ : ∃ ds, ds = (List.range k').map fun (j : Nat) => nth ns (13 + (0 + (j : Int))) := ⟨_, rfl⟩
  have dl : ds.length = k' := by rw [hds]; simp
  obtain ⟨rs, R, rl, rz, rb⟩ := f_list ds (by omega) (by omega) (fun c h => by
    rw [hds] at h
    obtain ⟨j, _, rfl⟩ := List.mem_map.mp h
    exact hb _)
  have rb' : ∀ a ∈ rs, a.natAbs < 2 ^ 230 := fun a h => Nat.lt_trans (rb a h) (Nat.pow_lt_pow_right (by omega) (by omega))
  have rI : PolyI rs := ⟨by omega, by omega, rz⟩
  -- the slope
  obtain ⟨ss, hss⟩ : ∃ ss, ss = (slp 0 os).drop 1 := ⟨_, rfl⟩
  have SL := f_slope_of oI ob
  rw [← hss] at SL
  obtain ⟨o1, or', hoo⟩ : ∃ o1 or', os = o1 :: or' := by
    cases hq : os with
    | nil => rw [hq] at ol; simp at ol; omega
    | cons o1 or' => exact ⟨o1, or', rfl⟩
  have orl : os.length = or'.length + 1 := by rw [hoo]; rfl
  have sse : ss = slp 1 or' := by rw [hss, hoo]; rfl
  have slen : ss.length = os.length - 1 := by rw [sse, slp_len, hoo]; simp
  have orb : ∀ a ∈ or', a.natAbs < 2 ^ 200 := fun a h => by
    have : a ∈ as := by
      have h1 : or' = os.drop 1 := by rw [hoo]; rfl
      rw [h1, hos, List.drop_drop] at h
      have h2 : (7 :: as).drop ((7 :: as).length - 5 + 1) = as.drop ((7 :: as).length - 5) := by rw [List.drop_succ_cons]
      rw [h2] at h
      exact (List.drop_sublist _ _).subset h
    exact ab a this
  have slb : ∀ (l : List Int) (n : Nat), n + l.length ≤ 100 → (∀ a ∈ l, a.natAbs < 2 ^ 200) → ∀ c ∈ slp n l, c.natAbs < 2 ^ 230 := by
    intro l
    induction l with
    | nil => exact fun _ _ _ _ h => nomatch h
    | cons a r ih =>
      intro n hn hb c hc
      rw [List.length_cons] at hn
      rw [slp] at hc
      rcases List.mem_cons.mp hc with rfl | hc
      · exact mul_lt (m := 10) (by omega) (hb a List.mem_cons_self) (by omega)
      · exact ih (n + 1) (by omega) (fun q hq => hb q (List.mem_cons_of_mem _ hq)) c hc
  have sb : ∀ c ∈ ss, c.natAbs < 2 ^ 230 := by rw [sse]; exact slb or' 1 (by omega) orb
  have W4 := f_worth_right b1 tz bz ss sb (by omega) (by omega)
  have RR := f_row_right ss (by omega)
  have lso : lenP [.lst (os.map PV.int)] = .ok (.int os.length) := by simp
  have rso : rng2 [.int 1, .int (os.length : Int)] = .ok (rngL 1 or'.length) := by
    rw [rng2_all]
    have : os.length = or'.length + 1 := by rw [hoo]; rfl
    rw [show ((os.length : Int) - 1).toNat = or'.length by omega]
  have SC : ∀ (a0 a1 a2 a3 a5 a6 a7 a8 a9 a11 a12 : Slot), lcGo (gN 10) cYes (e2 mulP (eVo 10) (e2 ixP (eVo 4) (eVo 10))) [a0, a1, a2, a3, .val (.lst (os.map PV.int)), a5, a6, a7, a8, a9, .un, a11, a12] (rngL 1 or'.length) = .ok (ss.map PV.int) := fun a0 a1 a2 a3 a5 a6 a7 a8 a9 a11 a12 => by
    have := slopes_lc ob (by omega) a0 a1 a2 a3 a5 a6 a7 a8 a9 a11 a12 or' [o1] .un hoo
    rw [List.length_singleton] at this
    rw [sse]
    exact this
  -- the products
  have h3 : ∀ c ∈ os, c.natAbs < 2 ^ 300 := fun c h => Nat.lt_trans (ob c h) (Nat.pow_lt_pow_right (by omega) (by omega))
  have r3 : ∀ c ∈ rs, c.natAbs < 2 ^ 300 := fun c h => Nat.lt_trans (rb' c h) (Nat.pow_lt_pow_right (by omega) (by omega))
  have Q1 := f_product_l (a := os) (b := rs) (by omega) (by omega) (by omega) h3 r3
  have Q2 := f_product_of oI rI h3 r3
  have Q3 := f_product_of rI oI r3 h3
  rw [prodL_comm rs os] at Q3
  have Q4 := f_product_of oI oI h3 h3
  have Q5 := f_product_l (a := os) (b := os) (by omega) (by omega) (by omega) h3 h3
  have R1 := f_row_right (prodL os rs) (by rw [prodL_len]; omega)
  have R2 := f_row_right (prodL os os) (by rw [prodL_len]; omega)
  have pl := prodL_len os rs
  -- names
  have N2 := f_is_poly_ok rI
  obtain ⟨V, hV⟩ : ∃ V, V = PV.lst (as.map PV.int) := ⟨_, rfl⟩
  obtain ⟨O, hO⟩ : ∃ O, O = PV.lst (os.map PV.int) := ⟨_, rfl⟩
  obtain ⟨U, hU⟩ : ∃ U, U = PV.lst (rs.map PV.int) := ⟨_, rfl⟩
  obtain ⟨S, hS⟩ : ∃ S, S = ss.map PV.int := ⟨_, rfl⟩
  obtain ⟨M, hM⟩ : ∃ M, M = (prodL os rs).map PV.int := ⟨_, rfl⟩
  obtain ⟨M2, hM2⟩ : ∃ M2, M2 = (prodL os os).map PV.int := ⟨_, rfl⟩
  obtain ⟨fr, hfr⟩ : ∃ fr, fr = fracV t b := ⟨_, rfl⟩
  have Sl : S.length < 1000 := by rw [hS, List.length_map]; omega
  have Ml : M.length < 1000 := by rw [hM, List.length_map]; omega
  have okK : okD 30 (.lst [O, U]) = true := by rw [hO, hU]; simp [okD]
  have eK : eqP (.lst [O, U]) (.lst [O, U]) = .ok (.bl true) := eqP_self okK
  have nK : neP (.lst [O, U]) (.lst [O, U]) = .ok (.bl false) := neP_self okK
  have lvO : listP [O] = .ok O := by rw [hO]; simp
  have lvU : listP [U] = .ok U := by rw [hU]; simp
  have lsV : lenP [V] = .ok (.int as.length) := by rw [hV]; simp
  rw [← hS] at SL RR W4
  rw [← hM] at Q1 Q2 Q3 R1
  rw [← hM2] at Q4 Q5 R2
  rw [← hfr] at W1 W2 W3 W4 PT
  rw [← hV] at A TR W1 ap0 ap7
  rw [← hO] at sl5 SL lso Q1 Q2 Q3 Q4 Q5
  rw [← hO, ← hS] at SC
  rw [← hU] at R Q1 Q2 Q3 N2
  have l1 : ∀ a : PV, lstP [a] = .ok (.lst [a]) := fun _ => lstP_ok (by simp)
  have l2 : ∀ a b : PV, lstP [a, b] = .ok (.lst [a, b]) := fun _ _ => lstP_ok (by simp)
  have ib : isiP "bool" (.bl (decide (1 < as.length))) = .ok (.bl true) := by rw [isi_bool]; rfl
  have nb : neP (.bl (decide (1 < as.length))) (.bl (decide ((as.length : Int) > 1))) = .ok (.bl false) := by
    have : decide ((as.length : Int) > 1) = decide (1 < as.length) := by rw [decide_eq_decide]; omega
    rw [this]
    exact neP_self (by simp [okD])
  have LL := lendF_ok (nw := false) RR rfl
  have LW := lendF_ok (nw := false) W4 rfl
  have LM := lendF_ok (nw := false) R1 rfl
  have apS : appP S (.int 5) = .ok (S ++ [.int 5]) := appP_ok (by omega)
  have apM : appP M (.int 5) = .ok (M ++ [.int 5]) := appP_ok (by omega)
  unfold D_law
  refine stp V (by
      simp only [eD_eq, aCons_eq, aNil_eq] at C1 ⊢
      rw [C1]
      simp only [bind1, A]) ?_
  simp only [List.set_cons_succ, List.set_cons_zero]
  refine stp fr (by simp [fc, PT]) ?_
  simp only [List.set_cons_succ, List.set_cons_zero]
  refine stp (.bl (decide (1 < as.length))) (by simp only [eD_eq, aCons_eq, aNil_eq, eV0, eVs, bind1, TR]) ?_
  simp only [List.set_cons_succ, List.set_cons_zero]
  refine skp (by simp only [tOr_eq, tNt_eq, tB1_eq, e1_eq, e2_eq, eD_eq, aCons_eq, aNil_eq, eC_eq, eV0, eVs, eVos, eVo0, bind1, W1, ib, lsV, gtP_ii, nb, asB_eq, Bool.not_true, if_neg Bool.false_ne_true]) ?_
  refine skp (by simp only [tOr_eq, tNt_eq, tB1_eq, e2_eq, eSl_eq, oNone_eq, oSome_eq, eD_eq, aCons_eq, aNil_eq, eC_eq, eV0, eVs, eVos, eVo0, bind1, asI_eq, l1, ap0, sl9, W2, W3, asB_eq, Bool.not_true, if_neg Bool.false_ne_true]) ?_
  refine stp O (by simp only [e1_eq, e2_eq, eSl_eq, oNone_eq, oSome_eq, eD_eq, aCons_eq, aNil_eq, eC_eq, eVos, eVo0, bind1, negP_eq, asI_eq, l1, ap7, sl5]) ?_
  simp only [List.set_cons_succ, List.set_cons_zero]
  have C2 := eLc_ok (vs := [10]) (it := iR rng1 (aCons (e2 addP (eC (.int 2)) (e2 modP (eD F__law_cell_at (aCons (eV 0) (aCons (eC (.int 12)) aNil))) (eC (.int 4)))) aNil)) (ρ := [.val (.frz (ns.map PV.int)), .val V, .val fr, .val (.bl (decide (1 < as.length))), .val O, .un, .un, .un, .un, .un, .un, .un, .un]) (items := rngL 0 k') rfl (by simp only [iR_eq, e2_eq, eD_eq, aCons_eq, aNil_eq, eC_eq, eV0, bind1, fc 12 (by omega), m4, addP_ii, hk', rk']) (by rw [rngL_len]; omega) (cells_lc ns 13 (by omega) _ _ _ _ _ _ _ _ _ _ _ _ k')
  rw [← hds] at C2
  refine stp U (by
      simp only [eD_eq, aCons_eq, aNil_eq] at C2 ⊢
      rw [C2]
      simp only [bind1, R]) ?_
  simp only [List.set_cons_succ, List.set_cons_zero]
  refine stp (.lst [O, U]) (by simp only [eD_eq, aCons_eq, aNil_eq, eVos, eVo0, bind1, lvO, lvU, l2]) ?_
  simp only [List.set_cons_succ, List.set_cons_zero]
  refine stpN (ρ' := [.val (.frz (ns.map PV.int)), .val V, .val fr, .val (.bl (decide (1 < as.length))), .val O, .val U, .val (.lst [O, U]), .own S, .un, .un, .un, .un, .un]) (by simp [SL]) ?_
  have C3 := eLc_ok (vs := [10]) (it := iR rng2 (aCons (eC (.int 1)) (aCons (eD lenP (aCons (eVo 4) aNil)) aNil))) (ρ := [.val (.frz (ns.map PV.int)), .val V, .val fr, .val (.bl (decide (1 < as.length))), .val O, .val U, .val (.lst [O, U]), .own S, .un, .un, .un, .un, .un]) (items := rngL 1 or'.length) rfl (by simp only [iR_eq, eD_eq, aCons_eq, aNil_eq, eC_eq, eVos, eVo0, bind1, lso, rso]) (by rw [rngL_len]; omega) (SC _ _ _ _ _ _ _ _ _ _ _)
  refine skp (by simp only [tOr_eq, tNt_eq, tB1_eq, eD_eq, aCons_eq, aNil_eq, C3, eVos, eVo0, eVo0', bind1, LL, LW, asB_eq, Bool.not_true, if_neg Bool.false_ne_true]) ?_
  refine stpN (ρ' := [.val (.frz (ns.map PV.int)), .val V, .val fr, .val (.bl (decide (1 < as.length))), .val O, .val U, .val (.lst [O, U]), .own (S ++ [.int 5]), .un, .un, .un, .un, .un]) (by simp [apS]) ?_
  refine stp (.lst M) (by simp only [eD_eq, aCons_eq, aNil_eq, eV0, eVs, bind1, Q1]) ?_
  simp only [List.set_cons_succ, List.set_cons_zero]
  refine stpN (ρ' := [.val (.frz (ns.map PV.int)), .val V, .val fr, .val (.bl (decide (1 < as.length))), .val O, .val U, .val (.lst [O, U]), .own (S ++ [.int 5]), .val (.lst M), .own M, .un, .un, .un]) (by simp [Q2]) ?_
  refine skp (by simp only [tNt_eq, tB1_eq, eD_eq, aCons_eq, aNil_eq, eVos, eVo0, eVo0', bind1, LM, asB_eq, Bool.not_true]) ?_
  refine stpN (ρ' := [.val (.frz (ns.map PV.int)), .val V, .val fr, .val (.bl (decide (1 < as.length))), .val O, .val U, .val (.lst [O, U]), .own (S ++ [.int 5]), .val (.lst M), .own (M ++ [.int 5]), .un, .un, .un]) (by simp [apM]) ?_
  refine skp (by simp only [tNt_eq, tB1_eq, eD_eq, aCons_eq, aNil_eq, eV0, eVs, bind1, Q3, R1, asB_eq, Bool.not_true]) ?_
  refine skp (by simp only [tOr_eq, tNt_eq, tB1_eq, e2_eq, eD_eq, aCons_eq, aNil_eq, eV0, eVs, eVos, eVo0, bind1, Q4, Q5, R2, l2, nK, asB_eq, Bool.not_true, if_neg Bool.false_ne_true]) ?_
  -- the things
  have ls0 : lenP [.frz (ns.map PV.int)] = .ok (.int ns.length) := by simp
  have mn := minP_ok ns.length 43
  have mx := maxP_ok 20 (min (ns.length : Int) 43)
  obtain ⟨e, he⟩ : ∃ e : Nat, (max 20 (min (ns.length : Int) 43) - 19).toNat = e := ⟨_, rfl⟩
  have rng : rng2 [.int 19, .int (max 20 (min (ns.length : Int) 43))] = .ok (rngL 19 e) := by rw [rng2_all, he]
  obtain ⟨ρ', lp, s10, s11, s12, h10, rfl⟩ := forL_rng (tgt := gN 10) (body := (bSeq (sSet 11 (eD F__law_cell_at (aCons (eV 0) (aCons (eV 10) aNil)))) (bSeq (sSet 12 (eD F__law_odd (aCons (eV 11) aNil))) (bSeq (sIf (tOr' (tB1 (e2 notBP (eD F_is_poly (aCons (eV 12) aNil)) (eC (.bl false)))) (tNt (tB1 (eD F__law_refused (aCons (e2 modP (e2 fdivP (eVo 11) (eC (.int 12))) (eC (.int 3))) (aCons (eV 12) (aCons (eV 5) aNil))))))) (bSeq (sRet (eC (.bl false))) bNil) bNil) bNil))))
    (fun _ ρ => ∃ s10 s11 s12 : Slot, notOwn [s10] 0 = true ∧ ρ = [.val (.frz (ns.map PV.int)), .val V, .val fr, .val (.bl (decide (1 < as.length))), .val O, .val U, .val (.lst [O, U]), .own (S ++ [.int 5]), .val (.lst M), .own (M ++ [.int 5]), s10, s11, s12]) 19 e [.val (.frz (ns.map PV.int)), .val V, .val fr, .val (.bl (decide (1 < as.length))), .val O, .val U, .val (.lst [O, U]), .own (S ++ [.int 5]), .val (.lst M), .own (M ++ [.int 5]), .un, .un, .un] ⟨.un, .un, .un, rfl, rfl⟩ (fun j ρ hj ⟨s10, s11, s12, _, h⟩ => by
      subst h
      obtain ⟨c, hc⟩ : ∃ c, c = nth ns (19 + (j : Int)) := ⟨_, rfl⟩
      have cc := fc (19 + (j : Int)) (by omega)
      rw [← hc] at cc
      obtain ⟨q, q1, q2⟩ := f_odd c
      have d12 := fdivP_sm (a := c) (b := 12) (by omega) (by omega)
      have m3 := modP_pos (a := c / 12) (b := 3) (by omega)
      have rf := f_refused (c / 12 % 3) q U (by omega) q2 N2
      refine ⟨_, .inl ?_, .val (.int (19 + (j : Int))), .val (.int c), .val q, rfl, rfl⟩
      simp only [turnL, gN_eq, List.set_cons_succ, List.set_cons_zero]
      refine sqS (.int c) (by simp only [eD_eq, aCons_eq, aNil_eq, eV0, eVs, bind1, cc]) ?_
      refine sqS q (by simp only [List.set_cons_succ, List.set_cons_zero, eD_eq, aCons_eq, aNil_eq, eV0, eVs, bind1, q1]) ?_
      simp only [List.set_cons_succ, List.set_cons_zero]
      exact sqK (by simp only [tOr_eq, tNt_eq, tB1_eq, e2_eq, eD_eq, aCons_eq, aNil_eq, eC_eq, eV0, eVs, eVos, eVo0, bind1, q2, notBP_bb, decide_true, Bool.not_true, asB_eq, d12, m3, rf, if_neg Bool.false_ne_true]) rfl)
  refine stpFor (rngL 19 e) _ (by simp only [iR_eq, eD_eq, aCons_eq, aNil_eq, eC_eq, eVo0, bind1, ls0, mn, mx, rng]) lp ?_
  have C4 := eLc_ok (vs := [10]) (it := iR rng2 (aCons (eC (.int 1)) (aCons (eD lenP (aCons (eVo 4) aNil)) aNil))) (ρ := [.val (.frz (ns.map PV.int)), .val V, .val fr, .val (.bl (decide (1 < as.length))), .val O, .val U, .val (.lst [O, U]), .own (S ++ [.int 5]), .val (.lst M), .own (M ++ [.int 5]), s10, s11, s12]) (items := rngL 1 or'.length) (by simpa [notOwn] using h10) (by simp only [iR_eq, eD_eq, aCons_eq, aNil_eq, eC_eq, eVos, eVo0, bind1, lso, rso]) (by rw [rngL_len]; omega) (SC _ _ _ _ _ _ _ _ _ _ _)
  simp only [bSeq_eq, sRet_eq, eAn_eq, e2_eq, eD_eq, aCons_eq, aNil_eq, C4, eV0, eVs, eVos, eVo0, bind1, SL, RR, l2, eK, asB_eq, if_true, st_ok, then_ret, res_ret]
end K61
set_option Elab.async false
set_option linter.all false
set_option maxRecDepth 100000
set_option autoImplicit false
set_option maxHeartbeats 0
namespace K61
open PySem PySem.Spec L2 PL PM
open PyProof.Rows hiding St
def topS (i : Nat) : Stmt := PySem.Challenge.pw_leftnumbers_k61_worths_slopes_products.main.body.getD i (.Pass ⟨0, 0, 0, 0⟩)
abbrev st_is_whole : Stmt := topS 17
theorem sc_is_whole : FnScope ["thing"] ["thing"] (defScope st_is_whole) := ⟨rfl, rfl, rfl, by decide +kernel, rfl, by decide +kernel, by decide +kernel⟩
abbrev st_divisor : Stmt := topS 19
theorem sc_divisor : FnScope ["one", "other"] ["one", "other"] (defScope st_divisor) := ⟨rfl, rfl, rfl, by decide +kernel, rfl, by decide +kernel, by decide +kernel⟩
abbrev st_fraction : Stmt := topS 20
theorem sc_fraction : FnScope ["top", "bottom", "share"] ["top", "bottom"] (defScope st_fraction) := ⟨rfl, rfl, rfl, by decide +kernel, rfl, by decide +kernel, by decide +kernel⟩
abbrev st_plus_fraction : Stmt := topS 21
theorem sc_plus_fraction : FnScope ["one", "other"] ["one", "other"] (defScope st_plus_fraction) := ⟨rfl, rfl, rfl, by decide +kernel, rfl, by decide +kernel, by decide +kernel⟩
abbrev st_times_fraction : Stmt := topS 22
theorem sc_times_fraction : FnScope ["one", "other"] ["one", "other"] (defScope st_times_fraction) := ⟨rfl, rfl, rfl, by decide +kernel, rfl, by decide +kernel, by decide +kernel⟩
abbrev st_is_poly : Stmt := topS 25
theorem sc_is_poly : FnScope ["thing", "number"] ["thing"] (defScope st_is_poly) := ⟨rfl, rfl, rfl, by decide +kernel, rfl, by decide +kernel, by decide +kernel⟩
abbrev st_want_poly : Stmt := topS 26
theorem sc_want_poly : FnScope ["thing"] ["thing"] (defScope st_want_poly) := ⟨rfl, rfl, rfl, by decide +kernel, rfl, by decide +kernel, by decide +kernel⟩
abbrev st_worth_at : Stmt := topS 27
theorem sc_worth_at : FnScope ["poly", "part", "found", "number"] ["poly", "part"] (defScope st_worth_at) := ⟨rfl, rfl, rfl, by decide +kernel, rfl, by decide +kernel, by decide +kernel⟩
abbrev st_slope_of : Stmt := topS 28
theorem sc_slope_of : FnScope ["poly", "k", "number"] ["poly"] (defScope st_slope_of) := ⟨rfl, rfl, rfl, by decide +kernel, rfl, by decide +kernel, by decide +kernel⟩
abbrev st_product_of : Stmt := topS 29
theorem sc_product_of : FnScope ["poly", "other", "found", "k", "one", "m", "number"] ["poly", "other"] (defScope st_product_of) := ⟨rfl, rfl, rfl, by decide +kernel, rfl, by decide +kernel, by decide +kernel⟩
abbrev st__law_cell_at : Stmt := topS 31
theorem sc__law_cell_at : FnScope ["_law_script", "_law_k"] ["_law_script", "_law_k"] (defScope st__law_cell_at) := ⟨rfl, rfl, rfl, by decide +kernel, rfl, by decide +kernel, by decide +kernel⟩
abbrev st__law_whole : Stmt := topS 32
theorem sc__law_whole : FnScope ["_law_found"] ["_law_found"] (defScope st__law_whole) := ⟨rfl, rfl, rfl, by decide +kernel, rfl, by decide +kernel, by decide +kernel⟩
abbrev st__law_number : Stmt := topS 33
theorem sc__law_number : FnScope ["_law_cell", "_law_rest"] ["_law_cell"] (defScope st__law_number) := ⟨rfl, rfl, rfl, by decide +kernel, rfl, by decide +kernel, by decide +kernel⟩
abbrev st__law_list : Stmt := topS 34
theorem sc__law_list : FnScope ["_law_cells", "_law_numbers", "_law_cell"] ["_law_cells"] (defScope st__law_list) := ⟨rfl, rfl, rfl, by decide +kernel, rfl, by decide +kernel, by decide +kernel⟩
abbrev st__law_divisor : Stmt := topS 35
theorem sc__law_divisor : FnScope ["_law_one", "_law_other"] ["_law_one", "_law_other"] (defScope st__law_divisor) := ⟨rfl, rfl, rfl, by decide +kernel, rfl, by decide +kernel, by decide +kernel⟩
abbrev st__law_part : Stmt := topS 36
theorem sc__law_part : FnScope ["_law_top", "_law_bottom", "_law_share"] ["_law_top", "_law_bottom"] (defScope st__law_part) := ⟨rfl, rfl, rfl, by decide +kernel, rfl, by decide +kernel, by decide +kernel⟩
abbrev st__law_worth_right : Stmt := topS 37
theorem sc__law_worth_right : FnScope ["_law_poly", "_law_part_here", "_law_top", "_law_bottom", "_law_due", "_law_by", "_law_number_here", "_law_found"] ["_law_poly", "_law_part_here"] (defScope st__law_worth_right) := ⟨rfl, rfl, rfl, by decide +kernel, rfl, by decide +kernel, by decide +kernel⟩
abbrev st__law_row_right : Stmt := topS 38
theorem sc__law_row_right : FnScope ["_law_found", "_law_due", "_law_number_here"] ["_law_found", "_law_due"] (defScope st__law_row_right) := ⟨rfl, rfl, rfl, by decide +kernel, rfl, by decide +kernel, by decide +kernel⟩
abbrev st__law_product : Stmt := topS 39
theorem sc__law_product : FnScope ["_law_one", "_law_other", "_law_due", "_law_k", "_law_m"] ["_law_one", "_law_other"] (defScope st__law_product) := ⟨rfl, rfl, rfl, by decide +kernel, rfl, by decide +kernel, by decide +kernel⟩
abbrev st__law_odd : Stmt := topS 40
theorem sc__law_odd : FnScope ["_law_cell", "_law_far", "_law_some"] ["_law_cell"] (defScope st__law_odd) := ⟨rfl, rfl, rfl, by decide +kernel, rfl, by decide +kernel, by decide +kernel⟩
abbrev st__law_refused : Stmt := topS 41
theorem sc__law_refused : FnScope ["_law_way", "_law_thing", "_law_poly", "_law_told", "e"] ["_law_way", "_law_thing", "_law_poly"] (defScope st__law_refused) := ⟨rfl, rfl, rfl, by decide +kernel, rfl, by decide +kernel, by decide +kernel⟩
abbrev st_law : Stmt := topS 42
theorem sc_law : FnScope ["_law_script", "_law_poly", "_law_part_here", "_law_truth", "_law_one", "_law_other", "_law_kept", "_law_slope", "_law_due", "_law_made", "_law_k", "_law_cell", "_law_thing"] ["_law_script"] (defScope st_law) := ⟨rfl, rfl, rfl, by decide +kernel, rfl, by decide +kernel, by decide +kernel⟩
def dsL : List Str := ["NoDepth", "NoFigures", "NoFraction", "NoPlace", "NoPolynomial", "NoPower", "NoPrime", "NoQuotient", "NoRoot", "NoSize", "NoText", "NotNear", "TooFew", "Unlike"]
structure Tx (K : PySem.W.Frag) (mg : Str → Option Value) : Prop where
  d_is_whole : DefE K mg "is_whole" st_is_whole ["thing"]
  d_divisor : DefE K mg "divisor" st_divisor ["one", "other"]
  d_fraction : DefED K mg "fraction" st_fraction ["top", "bottom"]
  d_plus_fraction : DefE K mg "plus_fraction" st_plus_fraction ["one", "other"]
  d_times_fraction : DefE K mg "times_fraction" st_times_fraction ["one", "other"]
  d_is_poly : DefE K mg "is_poly" st_is_poly ["thing"]
  d_want_poly : DefE K mg "want_poly" st_want_poly ["thing"]
  d_worth_at : DefE K mg "worth_at" st_worth_at ["poly", "part"]
  d_slope_of : DefE K mg "slope_of" st_slope_of ["poly"]
  d_product_of : DefE K mg "product_of" st_product_of ["poly", "other"]
  d__law_cell_at : DefE K mg "_law_cell_at" st__law_cell_at ["_law_script", "_law_k"]
  d__law_whole : DefE K mg "_law_whole" st__law_whole ["_law_found"]
  d__law_number : DefE K mg "_law_number" st__law_number ["_law_cell"]
  d__law_list : DefE K mg "_law_list" st__law_list ["_law_cells"]
  d__law_divisor : DefE K mg "_law_divisor" st__law_divisor ["_law_one", "_law_other"]
  d__law_part : DefE K mg "_law_part" st__law_part ["_law_top", "_law_bottom"]
  d__law_worth_right : DefE K mg "_law_worth_right" st__law_worth_right ["_law_poly", "_law_part_here"]
  d__law_row_right : DefE K mg "_law_row_right" st__law_row_right ["_law_found", "_law_due"]
  d__law_product : DefE K mg "_law_product" st__law_product ["_law_one", "_law_other"]
  d__law_odd : DefE K mg "_law_odd" st__law_odd ["_law_cell"]
  d__law_refused : DefE K mg "_law_refused" st__law_refused ["_law_way", "_law_thing", "_law_poly"]
  n_ValueError : mg "ValueError" = none
  n_abs : mg "abs" = none
  n_all : mg "all" = none
  n_bool : mg "bool" = none
  n_enumerate : mg "enumerate" = none
  n_int : mg "int" = none
  n_isinstance : mg "isinstance" = none
  n_len : mg "len" = none
  n_list : mg "list" = none
  n_max : mg "max" = none
  n_min : mg "min" = none
  n_range : mg "range" = none
  n_reversed : mg "reversed" = none
  n_tuple : mg "tuple" = none
  c_MOST_NUMBERS : GlI mg "MOST_NUMBERS" 9
  x_NoFraction : ∃ C, ExcT K mg "NoFraction" C
  x_NoPolynomial : ∃ C, ExcT K mg "NoPolynomial" C
  u_LeftError : ∃ C, mg "LeftError" = some (.ref C)
  u_NoDepth : ∃ C, mg "NoDepth" = some (.ref C)
  u_NoFigures : ∃ C, mg "NoFigures" = some (.ref C)
  u_NoFraction : ∃ C, mg "NoFraction" = some (.ref C)
  u_NoPlace : ∃ C, mg "NoPlace" = some (.ref C)
  u_NoPolynomial : ∃ C, mg "NoPolynomial" = some (.ref C)
  u_NoPower : ∃ C, mg "NoPower" = some (.ref C)
  u_NoPrime : ∃ C, mg "NoPrime" = some (.ref C)
  u_NoQuotient : ∃ C, mg "NoQuotient" = some (.ref C)
  u_NoRoot : ∃ C, mg "NoRoot" = some (.ref C)
  u_NoSize : ∃ C, mg "NoSize" = some (.ref C)
  u_NoText : ∃ C, mg "NoText" = some (.ref C)
  u_NotNear : ∃ C, mg "NotNear" = some (.ref C)
  u_TooFew : ∃ C, mg "TooFew" = some (.ref C)
  u_Unlike : ∃ C, mg "Unlike" = some (.ref C)
  kq : ∀ c ∈ csL, ∀ d ∈ dsL, KQ K mg c d
  kv : ∀ c ∈ csL, ∀ C, mg c = some (.ref C) → PySem.W.kitOne K (.ref C) (.type "ValueError") = some (subX c "ValueError")
  ke : ∀ c ∈ csL, KE K mg c "LeftError"
section
variable {P : Program} {w : World} {K : PySem.W.Frag} {mg : Str → Option Value} {base : Heap}
theorem bd_is_whole (B : Tx K mg) {f : Addr} {cdv : Value} {A : Around} {outer : List PySem.Env} {s : Shared} {H : Hp} {E : XK} (hr : Room 0 (A.deeper (envOfC "is_whole" (defScope st_is_whole) s.heap.objs.size f cdv))) :
    BJ (cxOf (L2N.CX P w) P w K mg base ["thing"] "is_whole" (defScope st_is_whole) f cdv A outer s H E) (fun cls d _ H => E cls d H) false (defBody st_is_whole) D_is_whole :=
  (b_cons (s_ret (e_and (e_isi (n := "int") B.n_isinstance (by rfl) (e_varT (pv 0)) (pe_bltn (by rfl) B.n_int (by decide +kernel) rfl)) (e_one (e_not (e_isi (n := "bool") B.n_isinstance (by rfl) (e_varT (pv 0)) (pe_bltn (by rfl) B.n_bool (by decide +kernel) rfl))))))
b_nil)
theorem ok_is_whole (B : Tx K mg) : Okd P w K mg base "is_whole" ["thing"] 1 1 false F_is_whole := def_ok B.d_is_whole sc_is_whole rfl (fun z => nomatch z) fun f cdv A outer s H E hr => bd_is_whole B hr
theorem bd_divisor (B : Tx K mg) {f : Addr} {cdv : Value} {A : Around} {outer : List PySem.Env} {s : Shared} {H : Hp} {E : XK} (hr : Room 0 (A.deeper (envOfC "divisor" (defScope st_divisor) s.heap.objs.size f cdv))) :
    BJ (cxOf (L2N.CX P w) P w K mg base ["one", "other"] "divisor" (defScope st_divisor) f cdv A outer s H E) (fun cls d _ H => E cls d H) false (defBody st_divisor) D_divisor :=
  (b_cons (s_set (i := 0) sc_divisor.nd rfl (Or.inl rfl) (e_abs B.n_abs (by rfl) (a_cons (e_varT (pv 0)) a_nil)))
(b_cons (s_set (i := 1) sc_divisor.nd rfl (Or.inl rfl) (e_abs B.n_abs (by rfl) (a_cons (e_varT (pv 1)) a_nil)))
(b_cons (s_while hp_of (t_gt (e_varT (pv 1)) (e_s_t e_int))
(b_cons (s_par (i := 0) (j := 1) rfl sc_divisor.nd rfl rfl (by decide) rfl rfl (a_cons (e_var (pv 1)) (a_cons (e_mod (e_varT (pv 0)) (e_varT (pv 1))) a_nil)) (by rfl))
b_nil))
(b_cons (s_ret (e_var (pv 0)))
b_nil))))
theorem ok_divisor (B : Tx K mg) : Okd P w K mg base "divisor" ["one", "other"] 1 2 false F_divisor := def_ok B.d_divisor sc_divisor rfl (fun z => nomatch z) fun f cdv A outer s H E hr => bd_divisor B hr
theorem bd_fraction (B : Tx K mg) {f : Addr} {cdv : Value} {A : Around} {outer : List PySem.Env} {s : Shared} {H : Hp} {E : XK} (hr : Room 1 (A.deeper (envOfC "fraction" (defScope st_fraction) s.heap.objs.size f cdv))) :
    BJ (cxOf (L2N.CX P w) P w K mg base ["top", "bottom", "share"] "fraction" (defScope st_fraction) f cdv A outer s H E) (fun cls d _ H => E cls d H) false (defBody st_fraction) D_fraction :=
  (b_cons (s_if (t_w (w_or (t_not (t_val (e_callD (ok_is_whole B) hr (by decide) tk_of (by rfl) (a_cons (e_var (pv 0)) a_nil) (ALen.cons ALen.nil)))) (w_or (t_not (t_val (e_callD (ok_is_whole B) hr (by decide) tk_of (by rfl) (a_cons (e_var (pv 1)) a_nil) (ALen.cons ALen.nil)))) (w_or1 (t_eq hr.units (e_varT (pv 1)) (e_s_t e_int))))))
(b_cons (s_raise B.x_NoFraction.choose_spec rfl tk_of (by rfl))
b_nil)
b_nil)
(b_cons (s_set (i := 2) sc_fraction.nd rfl (Or.inl rfl) (e_callD (ok_divisor B) hr (by decide) tk_of (by rfl) (a_cons (e_var (pv 0)) (a_cons (e_var (pv 1)) a_nil)) (ALen.cons (ALen.cons ALen.nil))))
(b_cons (s_if (t_lt (e_varT (pv 1)) (e_s_t e_int))
(b_cons (s_set (i := 2) sc_fraction.nd rfl (Or.inl rfl) (e_neg (e_varT (pv 2))))
b_nil)
b_nil)
(b_cons (s_ret (e_tup (a_cons (e_fdiv (e_varT (pv 0)) (e_varT (pv 2))) (a_cons (e_fdiv (e_varT (pv 1)) (e_varT (pv 2))) a_nil))))
b_nil))))
theorem ok_fraction (B : Tx K mg) : Okd P w K mg base "fraction" ["top", "bottom"] 2 2 false F_fraction ∧ OkD1 P w K mg base "fraction" ["top", "bottom"] 2 2 false F_fraction := def_okD B.d_fraction sc_fraction rfl (fun z => nomatch z) fun f cdv A outer s H E hr => bd_fraction B hr
theorem bd_plus_fraction (B : Tx K mg) {f : Addr} {cdv : Value} {A : Around} {outer : List PySem.Env} {s : Shared} {H : Hp} {E : XK} (hr : Room 2 (A.deeper (envOfC "plus_fraction" (defScope st_plus_fraction) s.heap.objs.size f cdv))) :
    BJ (cxOf (L2N.CX P w) P w K mg base ["one", "other"] "plus_fraction" (defScope st_plus_fraction) f cdv A outer s H E) (fun cls d _ H => E cls d H) false (defBody st_plus_fraction) D_plus_fraction :=
  (b_cons (s_ret (e_callD (ok_fraction B).1 hr (by decide) tk_of (by rfl) (a_cons (e_add (e_s_t (e_mul (e_s_t (e_item (e_varT (pv 0)) (e_s_t e_int) (fun _ _ => rfl))) (e_s_t (e_item (e_varT (pv 1)) (e_s_t e_int) (fun _ _ => rfl))))) (e_s_t (e_mul (e_s_t (e_item (e_varT (pv 1)) (e_s_t e_int) (fun _ _ => rfl))) (e_s_t (e_item (e_varT (pv 0)) (e_s_t e_int) (fun _ _ => rfl)))))) (a_cons (e_mul (e_s_t (e_item (e_varT (pv 0)) (e_s_t e_int) (fun _ _ => rfl))) (e_s_t (e_item (e_varT (pv 1)) (e_s_t e_int) (fun _ _ => rfl)))) a_nil)) (ALen.cons (ALen.cons ALen.nil))))
b_nil)
theorem ok_plus_fraction (B : Tx K mg) : Okd P w K mg base "plus_fraction" ["one", "other"] 3 2 false F_plus_fraction := def_ok B.d_plus_fraction sc_plus_fraction rfl (fun z => nomatch z) fun f cdv A outer s H E hr => bd_plus_fraction B hr
theorem bd_times_fraction (B : Tx K mg) {f : Addr} {cdv : Value} {A : Around} {outer : List PySem.Env} {s : Shared} {H : Hp} {E : XK} (hr : Room 2 (A.deeper (envOfC "times_fraction" (defScope st_times_fraction) s.heap.objs.size f cdv))) :
    BJ (cxOf (L2N.CX P w) P w K mg base ["one", "other"] "times_fraction" (defScope st_times_fraction) f cdv A outer s H E) (fun cls d _ H => E cls d H) false (defBody st_times_fraction) D_times_fraction :=
  (b_cons (s_ret (e_callD (ok_fraction B).1 hr (by decide) tk_of (by rfl) (a_cons (e_mul (e_s_t (e_item (e_varT (pv 0)) (e_s_t e_int) (fun _ _ => rfl))) (e_s_t (e_item (e_varT (pv 1)) (e_s_t e_int) (fun _ _ => rfl)))) (a_cons (e_mul (e_s_t (e_item (e_varT (pv 0)) (e_s_t e_int) (fun _ _ => rfl))) (e_s_t (e_item (e_varT (pv 1)) (e_s_t e_int) (fun _ _ => rfl)))) a_nil)) (ALen.cons (ALen.cons ALen.nil))))
b_nil)
theorem ok_times_fraction (B : Tx K mg) : Okd P w K mg base "times_fraction" ["one", "other"] 3 2 false F_times_fraction := def_ok B.d_times_fraction sc_times_fraction rfl (fun z => nomatch z) fun f cdv A outer s H E hr => bd_times_fraction B hr
theorem bd_is_poly (B : Tx K mg) {f : Addr} {cdv : Value} {A : Around} {outer : List PySem.Env} {s : Shared} {H : Hp} {E : XK} (hr : Room 1 (A.deeper (envOfC "is_poly" (defScope st_is_poly) s.heap.objs.size f cdv))) :
    BJ (cxOf (L2N.CX P w) P w K mg base ["thing", "number"] "is_poly" (defScope st_is_poly) f cdv A outer s H E) (fun cls d _ H => E cls d H) false (defBody st_is_poly) D_is_poly :=
  (b_cons (s_if (t_w (w_or (t_not (t_val (e_isi (n := "list") B.n_isinstance (by rfl) (e_varT (pv 0)) (pe_bltn (by rfl) B.n_list (by decide +kernel) rfl)))) (w_or (t_lt (e_s_t (e_len B.n_len (by rfl) (a_cons (e_varT (pv 0)) a_nil))) (e_s_t e_int)) (w_or1 (t_gt (e_s_t (e_len B.n_len (by rfl) (a_cons (e_varT (pv 0)) a_nil))) (e_s_t (e_glI B.c_MOST_NUMBERS (by rfl))))))))
(b_cons (s_ret e_bl)
b_nil)
b_nil)
(b_cons (s_ret (e_and (e_all rfl B.n_all (by rfl) (a_cons (e_f_t (e_lc (own := [("number", 1)]) rfl sc_is_poly.nd (i_seq (e_var (pv 0))) (blkOk_by (own := [("number", 1)]) (N := ["thing", "number"]) (sc := defScope st_is_poly) (by decide +kernel)) (by decide) (fun _ _ _ _ _ => (g_name (pg_name (i := 1) sc_is_poly.nd rfl (Or.inl rfl)))) (fun _ _ _ _ _ => c_nil) (fun _ _ _ _ _ => (e_callD (ok_is_whole B) hr (by decide) takesN (by rfl) (a_cons (e_var (pv 1)) a_nil) (ALen.cons ALen.nil))))) a_nil)) (e_one (e_ne hr.units (e_s_t (e_item (e_varT (pv 0)) (e_s_t (e_neg (e_s_t e_int))) (fun _ _ => rfl))) (e_s_t e_int)))))
b_nil))
theorem ok_is_poly (B : Tx K mg) : Okd P w K mg base "is_poly" ["thing"] 2 1 false F_is_poly := def_ok B.d_is_poly sc_is_poly rfl (fun z => nomatch z) fun f cdv A outer s H E hr => bd_is_poly B hr
theorem bd_want_poly (B : Tx K mg) {f : Addr} {cdv : Value} {A : Around} {outer : List PySem.Env} {s : Shared} {H : Hp} {E : XK} (hr : Room 2 (A.deeper (envOfC "want_poly" (defScope st_want_poly) s.heap.objs.size f cdv))) :
    BJ (cxOf (L2N.CX P w) P w K mg base ["thing"] "want_poly" (defScope st_want_poly) f cdv A outer s H E) (fun cls d _ H => E cls d H) false (defBody st_want_poly) D_want_poly :=
  (b_cons (s_if (t_not (t_val (e_callD (ok_is_poly B) hr (by decide) tk_of (by rfl) (a_cons (e_var (pv 0)) a_nil) (ALen.cons ALen.nil))))
(b_cons (s_raise B.x_NoPolynomial.choose_spec rfl tk_of (by rfl))
b_nil)
b_nil)
b_nil)
theorem ok_want_poly (B : Tx K mg) : Okd P w K mg base "want_poly" ["thing"] 3 1 false F_want_poly := def_ok B.d_want_poly sc_want_poly rfl (fun z => nomatch z) fun f cdv A outer s H E hr => bd_want_poly B hr
theorem bd_worth_at (B : Tx K mg) {f : Addr} {cdv : Value} {A : Around} {outer : List PySem.Env} {s : Shared} {H : Hp} {E : XK} (hr : Room 3 (A.deeper (envOfC "worth_at" (defScope st_worth_at) s.heap.objs.size f cdv))) :
    BJ (cxOf (L2N.CX P w) P w K mg base ["poly", "part", "found", "number"] "worth_at" (defScope st_worth_at) f cdv A outer s H E) (fun cls d _ H => E cls d H) false (defBody st_worth_at) D_worth_at :=
  (b_cons (s_set (i := 2) sc_worth_at.nd rfl (Or.inl rfl) (e_callD1 (ok_fraction B).2 hr (by decide) tk_of (by rfl) (a_cons e_int a_nil) (ALen.cons ALen.nil)))
(b_cons (s_for hp_of rfl (i_rev B.n_reversed (by rfl) (e_var (pv 0))) (g_name (pg_name (i := 3) sc_worth_at.nd rfl (Or.inl rfl)))
(b_cons (s_set (i := 2) sc_worth_at.nd rfl (Or.inl rfl) (e_callD (ok_plus_fraction B) hr (by decide) tk_of (by rfl) (a_cons (e_callD (ok_times_fraction B) hr (by decide) tk_of (by rfl) (a_cons (e_var (pv 2)) (a_cons (e_var (pv 1)) a_nil)) (ALen.cons (ALen.cons ALen.nil))) (a_cons (e_callD1 (ok_fraction B).2 hr (by decide) tk_of (by rfl) (a_cons (e_var (pv 3)) a_nil) (ALen.cons ALen.nil)) a_nil)) (ALen.cons (ALen.cons ALen.nil))))
b_nil))
(b_cons (s_ret (e_var (pv 2)))
b_nil)))
theorem ok_worth_at (B : Tx K mg) : Okd P w K mg base "worth_at" ["poly", "part"] 4 2 false F_worth_at := def_ok B.d_worth_at sc_worth_at rfl (fun z => nomatch z) fun f cdv A outer s H E hr => bd_worth_at B hr
theorem bd_slope_of (B : Tx K mg) {f : Addr} {cdv : Value} {A : Around} {outer : List PySem.Env} {s : Shared} {H : Hp} {E : XK} (hr : Room 3 (A.deeper (envOfC "slope_of" (defScope st_slope_of) s.heap.objs.size f cdv))) :
    BJ (cxOf (L2N.CX P w) P w K mg base ["poly", "k", "number"] "slope_of" (defScope st_slope_of) f cdv A outer s H E) (fun cls d _ H => E cls d H) true (defBody st_slope_of) D_slope_of :=
  (b_cons (s_expr (e_callD (ok_want_poly B) hr (by decide) tk_of (by rfl) (a_cons (e_var (pv 0)) a_nil) (ALen.cons ALen.nil)))
(b_cons (s_retF (e_sliceL (e_f_t (e_lc (own := [("k", 1), ("number", 2)]) rfl sc_slope_of.nd (i_enum B.n_enumerate (by rfl) (e_var (pv 0))) (blkOk_by (own := [("k", 1), ("number", 2)]) (N := ["poly", "k", "number"]) (sc := defScope st_slope_of) (by decide +kernel)) (by decide) (fun _ _ _ _ _ => (g_tup rfl (gs_cons (g_name (pg_name (i := 1) sc_slope_of.nd rfl (Or.inl rfl))) (gs_cons (g_name (pg_name (i := 2) sc_slope_of.nd rfl (Or.inl rfl))) gs_nil)) (gs_len (gs_len gs_len0)))) (fun _ _ _ _ _ => c_nil) (fun _ _ _ _ _ => (e_mul (e_varT (pv 1)) (e_varT (pv 2)))))) (o_some e_int) o_none))
b_nil))
theorem ok_slope_of (B : Tx K mg) : Okd P w K mg base "slope_of" ["poly"] 4 1 true F_slope_of := def_ok B.d_slope_of sc_slope_of rfl (fun _ => (nn_seqR (nn_seqL (nn_ret _)))) fun f cdv A outer s H E hr => bd_slope_of B hr
theorem bd_product_of (B : Tx K mg) {f : Addr} {cdv : Value} {A : Around} {outer : List PySem.Env} {s : Shared} {H : Hp} {E : XK} (hr : Room 3 (A.deeper (envOfC "product_of" (defScope st_product_of) s.heap.objs.size f cdv))) :
    BJ (cxOf (L2N.CX P w) P w K mg base ["poly", "other", "found", "k", "one", "m", "number"] "product_of" (defScope st_product_of) f cdv A outer s H E) (fun cls d _ H => E cls d H) true (defBody st_product_of) D_product_of :=
  (b_cons (s_expr (e_callD (ok_want_poly B) hr (by decide) tk_of (by rfl) (a_cons (e_var (pv 0)) a_nil) (ALen.cons ALen.nil)))
(b_cons (s_expr (e_callD (ok_want_poly B) hr (by decide) tk_of (by rfl) (a_cons (e_var (pv 1)) a_nil) (ALen.cons ALen.nil)))
(b_cons (s_setO (i := 2) sc_product_of.nd rfl (Or.inl rfl) (e_repL (e_f_t (e_lst (a_cons e_int a_nil))) (e_s_t (e_sub (e_s_t (e_add (e_s_t (e_len B.n_len (by rfl) (a_cons (e_varT (pv 0)) a_nil))) (e_s_t (e_len B.n_len (by rfl) (a_cons (e_varT (pv 1)) a_nil))))) (e_s_t e_int)))))
(b_cons (s_for hp_of rfl (i_enum B.n_enumerate (by rfl) (e_var (pv 0))) (g_tup rfl (gs_cons (g_name (pg_name (i := 3) sc_product_of.nd rfl (Or.inl rfl))) (gs_cons (g_name (pg_name (i := 4) sc_product_of.nd rfl (Or.inl rfl))) gs_nil)) (gs_len (gs_len gs_len0)))
(b_cons (s_for hp_of rfl (i_enum B.n_enumerate (by rfl) (e_var (pv 1))) (g_tup rfl (gs_cons (g_name (pg_name (i := 5) sc_product_of.nd rfl (Or.inl rfl))) (gs_cons (g_name (pg_name (i := 6) sc_product_of.nd rfl (Or.inl rfl))) gs_nil)) (gs_len (gs_len gs_len0)))
(b_cons (s_augI (i := 2) (pv 2) (e_add (e_varT (pv 3)) (e_varT (pv 5))) (e_mul (e_varT (pv 4)) (e_varT (pv 6))))
b_nil))
b_nil))
(b_cons (s_retO (i := 2) (pv 2))
b_nil)))))
theorem ok_product_of (B : Tx K mg) : Okd P w K mg base "product_of" ["poly", "other"] 4 2 true F_product_of := def_ok B.d_product_of sc_product_of rfl (fun _ => (nn_seqR (nn_seqR (nn_seqR (nn_seqR (nn_seqL (nn_retO _))))))) fun f cdv A outer s H E hr => bd_product_of B hr
theorem bd__law_cell_at (B : Tx K mg) {f : Addr} {cdv : Value} {A : Around} {outer : List PySem.Env} {s : Shared} {H : Hp} {E : XK} (hr : Room 0 (A.deeper (envOfC "_law_cell_at" (defScope st__law_cell_at) s.heap.objs.size f cdv))) :
    BJ (cxOf (L2N.CX P w) P w K mg base ["_law_script", "_law_k"] "_law_cell_at" (defScope st__law_cell_at) f cdv A outer s H E) (fun cls d _ H => E cls d H) false (defBody st__law_cell_at) D__law_cell_at :=
  (b_cons (s_if (t_lt (e_varT (pv 1)) (e_s_t (e_len B.n_len (by rfl) (a_cons (e_varT (pv 0)) a_nil))))
(b_cons (s_ret (e_item (e_varT (pv 0)) (e_varT (pv 1)) (fun _ _ => rfl)))
b_nil)
b_nil)
(b_cons (s_ret e_int)
b_nil))
theorem ok__law_cell_at (B : Tx K mg) : Okd P w K mg base "_law_cell_at" ["_law_script", "_law_k"] 1 2 false F__law_cell_at := def_ok B.d__law_cell_at sc__law_cell_at rfl (fun z => nomatch z) fun f cdv A outer s H E hr => bd__law_cell_at B hr
theorem bd__law_whole (B : Tx K mg) {f : Addr} {cdv : Value} {A : Around} {outer : List PySem.Env} {s : Shared} {H : Hp} {E : XK} (hr : Room 0 (A.deeper (envOfC "_law_whole" (defScope st__law_whole) s.heap.objs.size f cdv))) :
    BJ (cxOf (L2N.CX P w) P w K mg base ["_law_found"] "_law_whole" (defScope st__law_whole) f cdv A outer s H E) (fun cls d _ H => E cls d H) false (defBody st__law_whole) D__law_whole :=
  (b_cons (s_ret (e_and (e_isi (n := "int") B.n_isinstance (by rfl) (e_varT (pv 0)) (pe_bltn (by rfl) B.n_int (by decide +kernel) rfl)) (e_one (e_not (e_isi (n := "bool") B.n_isinstance (by rfl) (e_varT (pv 0)) (pe_bltn (by rfl) B.n_bool (by decide +kernel) rfl))))))
b_nil)
theorem ok__law_whole (B : Tx K mg) : Okd P w K mg base "_law_whole" ["_law_found"] 1 1 false F__law_whole := def_ok B.d__law_whole sc__law_whole rfl (fun z => nomatch z) fun f cdv A outer s H E hr => bd__law_whole B hr
theorem bd__law_number (B : Tx K mg) {f : Addr} {cdv : Value} {A : Around} {outer : List PySem.Env} {s : Shared} {H : Hp} {E : XK} (hr : Room 0 (A.deeper (envOfC "_law_number" (defScope st__law_number) s.heap.objs.size f cdv))) :
    BJ (cxOf (L2N.CX P w) P w K mg base ["_law_cell", "_law_rest"] "_law_number" (defScope st__law_number) f cdv A outer s H E) (fun cls d _ H => E cls d H) false (defBody st__law_number) D__law_number :=
  (b_cons (s_set (i := 1) sc__law_number.nd rfl (Or.inl rfl) (e_fdiv (e_varT (pv 0)) (e_s_t e_int)))
(b_cons (s_if (t_eq hr.units (e_s_t (e_mod (e_varT (pv 0)) (e_s_t e_int))) (e_s_t e_int))
(b_cons (s_ret (e_sub (e_s_t (e_mod (e_s_t (e_mul (e_varT (pv 1)) (e_s_t e_int))) (e_s_t (e_add (e_s_t (e_mul (e_s_t e_int) (e_s_t (e_pow (e_s_t e_int) (e_s_t e_int))))) (e_s_t e_int))))) (e_s_t (e_pow (e_s_t e_int) (e_s_t e_int)))))
b_nil)
b_nil)
(b_cons (s_if (t_eq hr.units (e_s_t (e_mod (e_varT (pv 0)) (e_s_t e_int))) (e_s_t e_int))
(b_cons (s_ret (e_sub (e_s_t (e_mod (e_s_t (e_mul (e_varT (pv 1)) (e_s_t e_int))) (e_s_t (e_add (e_s_t (e_mul (e_s_t e_int) (e_s_t (e_pow (e_s_t e_int) (e_s_t e_int))))) (e_s_t e_int))))) (e_s_t (e_pow (e_s_t e_int) (e_s_t e_int)))))
b_nil)
b_nil)
(b_cons (s_ret (e_sub (e_s_t (e_mod (e_varT (pv 1)) (e_s_t e_int))) (e_s_t e_int)))
b_nil))))
theorem ok__law_number (B : Tx K mg) : Okd P w K mg base "_law_number" ["_law_cell"] 1 1 false F__law_number := def_ok B.d__law_number sc__law_number rfl (fun z => nomatch z) fun f cdv A outer s H E hr => bd__law_number B hr
theorem bd__law_list (B : Tx K mg) {f : Addr} {cdv : Value} {A : Around} {outer : List PySem.Env} {s : Shared} {H : Hp} {E : XK} (hr : Room 1 (A.deeper (envOfC "_law_list" (defScope st__law_list) s.heap.objs.size f cdv))) :
    BJ (cxOf (L2N.CX P w) P w K mg base ["_law_cells", "_law_numbers", "_law_cell"] "_law_list" (defScope st__law_list) f cdv A outer s H E) (fun cls d _ H => E cls d H) true (defBody st__law_list) D__law_list :=
  (b_cons (lcs (i := 1) (own := [("_law_cell", 2)]) (q_lcO (by decide)) rfl sc__law_list.nd rfl rfl (sw_true rfl rfl rfl (by decide +kernel)) (i_seq (e_var (pv 0))) (blkOk_by (own := [("_law_cell", 2)]) (N := ["_law_cells", "_law_numbers", "_law_cell"]) (sc := defScope st__law_list) (by decide +kernel)) (fun _ _ _ _ _ => (g_name (pg_name (i := 2) sc__law_list.nd rfl (Or.inl rfl)))) (fun _ _ _ _ _ => c_nil) (fun _ _ _ _ _ => (e_callD (ok__law_number B) hr (by decide) takesN (by rfl) (a_cons (e_var (pv 2)) a_nil) (ALen.cons ALen.nil))))
(b_cons (s_if (t_w (w_and (t_ne hr.units (e_varT (pv 1)) (e_f_t (e_lst a_nil))) (w_and1 (t_eq hr.units (e_s_t (e_item (e_varT (pv 1)) (e_s_t (e_neg (e_s_t e_int))) (fun _ _ => rfl))) (e_s_t e_int)))))
(b_cons (s_setI (i := 1) (pv 1) e_int (e_neg (e_s_t e_int)))
b_nil)
b_nil)
(b_cons (s_retO (i := 1) (pv 1))
b_nil)))
theorem ok__law_list (B : Tx K mg) : Okd P w K mg base "_law_list" ["_law_cells"] 2 1 true F__law_list := def_ok B.d__law_list sc__law_list rfl (fun _ => (nn_seqR (nn_seqR (nn_seqL (nn_retO _))))) fun f cdv A outer s H E hr => bd__law_list B hr
theorem bd__law_divisor (B : Tx K mg) {f : Addr} {cdv : Value} {A : Around} {outer : List PySem.Env} {s : Shared} {H : Hp} {E : XK} (hr : Room 0 (A.deeper (envOfC "_law_divisor" (defScope st__law_divisor) s.heap.objs.size f cdv))) :
    BJ (cxOf (L2N.CX P w) P w K mg base ["_law_one", "_law_other"] "_law_divisor" (defScope st__law_divisor) f cdv A outer s H E) (fun cls d _ H => E cls d H) false (defBody st__law_divisor) D__law_divisor :=
  (b_cons (s_set (i := 0) sc__law_divisor.nd rfl (Or.inl rfl) (e_abs B.n_abs (by rfl) (a_cons (e_varT (pv 0)) a_nil)))
(b_cons (s_set (i := 1) sc__law_divisor.nd rfl (Or.inl rfl) (e_abs B.n_abs (by rfl) (a_cons (e_varT (pv 1)) a_nil)))
(b_cons (s_while hp_of (t_gt (e_varT (pv 1)) (e_s_t e_int))
(b_cons (s_par (i := 0) (j := 1) rfl sc__law_divisor.nd rfl rfl (by decide) rfl rfl (a_cons (e_var (pv 1)) (a_cons (e_mod (e_varT (pv 0)) (e_varT (pv 1))) a_nil)) (by rfl))
b_nil))
(b_cons (s_ret (e_var (pv 0)))
b_nil))))
theorem ok__law_divisor (B : Tx K mg) : Okd P w K mg base "_law_divisor" ["_law_one", "_law_other"] 1 2 false F__law_divisor := def_ok B.d__law_divisor sc__law_divisor rfl (fun z => nomatch z) fun f cdv A outer s H E hr => bd__law_divisor B hr
theorem bd__law_part (B : Tx K mg) {f : Addr} {cdv : Value} {A : Around} {outer : List PySem.Env} {s : Shared} {H : Hp} {E : XK} (hr : Room 1 (A.deeper (envOfC "_law_part" (defScope st__law_part) s.heap.objs.size f cdv))) :
    BJ (cxOf (L2N.CX P w) P w K mg base ["_law_top", "_law_bottom", "_law_share"] "_law_part" (defScope st__law_part) f cdv A outer s H E) (fun cls d _ H => E cls d H) false (defBody st__law_part) D__law_part :=
  (b_cons (s_if (t_eq hr.units (e_s_t (e_mod (e_varT (pv 0)) (e_s_t e_int))) (e_s_t e_int))
(b_cons (s_set (i := 0) sc__law_part.nd rfl (Or.inl rfl) (e_sub (e_s_t (e_mod (e_s_t (e_fdiv (e_varT (pv 0)) (e_s_t e_int))) (e_s_t (e_add (e_s_t (e_mul (e_s_t e_int) (e_s_t (e_pow (e_s_t e_int) (e_s_t e_int))))) (e_s_t e_int))))) (e_s_t (e_pow (e_s_t e_int) (e_s_t e_int)))))
(b_cons (s_set (i := 1) sc__law_part.nd rfl (Or.inl rfl) (e_add (e_s_t e_int) (e_s_t (e_mod (e_varT (pv 1)) (e_s_t (e_pow (e_s_t e_int) (e_s_t e_int)))))))
b_nil))
(b_cons (s_set (i := 0) sc__law_part.nd rfl (Or.inl rfl) (e_sub (e_s_t (e_mod (e_s_t (e_fdiv (e_varT (pv 0)) (e_s_t e_int))) (e_s_t e_int))) (e_s_t e_int)))
(b_cons (s_set (i := 1) sc__law_part.nd rfl (Or.inl rfl) (e_add (e_s_t e_int) (e_s_t (e_mod (e_varT (pv 1)) (e_s_t e_int)))))
b_nil)))
(b_cons (s_set (i := 2) sc__law_part.nd rfl (Or.inl rfl) (e_callD (ok__law_divisor B) hr (by decide) tk_of (by rfl) (a_cons (e_var (pv 0)) (a_cons (e_var (pv 1)) a_nil)) (ALen.cons (ALen.cons ALen.nil))))
(b_cons (s_ret (e_tup (a_cons (e_fdiv (e_varT (pv 0)) (e_varT (pv 2))) (a_cons (e_fdiv (e_varT (pv 1)) (e_varT (pv 2))) a_nil))))
b_nil)))
theorem ok__law_part (B : Tx K mg) : Okd P w K mg base "_law_part" ["_law_top", "_law_bottom"] 2 2 false F__law_part := def_ok B.d__law_part sc__law_part rfl (fun z => nomatch z) fun f cdv A outer s H E hr => bd__law_part B hr
theorem bd__law_worth_right (B : Tx K mg) {f : Addr} {cdv : Value} {A : Around} {outer : List PySem.Env} {s : Shared} {H : Hp} {E : XK} (hr : Room 4 (A.deeper (envOfC "_law_worth_right" (defScope st__law_worth_right) s.heap.objs.size f cdv))) :
    BJ (cxOf (L2N.CX P w) P w K mg base ["_law_poly", "_law_part_here", "_law_top", "_law_bottom", "_law_due", "_law_by", "_law_number_here", "_law_found"] "_law_worth_right" (defScope st__law_worth_right) f cdv A outer s H E) (fun cls d _ H => E cls d H) false (defBody st__law_worth_right) D__law_worth_right :=
  (b_cons (s_to (e_var (pv 1)) (g_tup rfl (gs_cons (g_name (pg_name (i := 2) sc__law_worth_right.nd rfl (Or.inl rfl))) (gs_cons (g_name (pg_name (i := 3) sc__law_worth_right.nd rfl (Or.inl rfl))) gs_nil)) (gs_len (gs_len gs_len0))))
(b_cons (s_set (i := 4) sc__law_worth_right.nd rfl (Or.inl rfl) e_int)
(b_cons (s_set (i := 5) sc__law_worth_right.nd rfl (Or.inl rfl) e_int)
(b_cons (s_for hp_of rfl (i_rev B.n_reversed (by rfl) (e_var (pv 0))) (g_name (pg_name (i := 6) sc__law_worth_right.nd rfl (Or.inl rfl)))
(b_cons (s_set (i := 4) sc__law_worth_right.nd rfl (Or.inl rfl) (e_add (e_s_t (e_mul (e_varT (pv 4)) (e_varT (pv 2)))) (e_s_t (e_mul (e_varT (pv 6)) (e_varT (pv 5))))))
(b_cons (s_set (i := 5) sc__law_worth_right.nd rfl (Or.inl rfl) (e_mul (e_varT (pv 5)) (e_varT (pv 3))))
b_nil)))
(b_cons (s_set (i := 5) sc__law_worth_right.nd rfl (Or.inl rfl) (e_fdiv (e_varT (pv 5)) (e_varT (pv 3))))
(b_cons (s_set (i := 7) sc__law_worth_right.nd rfl (Or.inl rfl) (e_callD (ok_worth_at B) hr (by decide) tk_of (by rfl) (a_cons (e_var (pv 0)) (a_cons (e_var (pv 1)) a_nil)) (ALen.cons (ALen.cons ALen.nil))))
(b_cons (s_if (t_w (w_or (t_not (t_val (e_isi (n := "tuple") B.n_isinstance (by rfl) (e_varT (pv 7)) (pe_bltn (by rfl) B.n_tuple (by decide +kernel) rfl)))) (w_or (t_ne hr.units (e_s_t (e_len B.n_len (by rfl) (a_cons (e_varT (pv 7)) a_nil))) (e_s_t e_int)) (w_or (t_not (t_val (e_callD (ok__law_whole B) hr (by decide) tk_of (by rfl) (a_cons (e_item (e_varT (pv 7)) (e_s_t e_int) (fun _ _ => rfl)) a_nil) (ALen.cons ALen.nil)))) (w_or1 (t_not (t_val (e_callD (ok__law_whole B) hr (by decide) tk_of (by rfl) (a_cons (e_item (e_varT (pv 7)) (e_s_t e_int) (fun _ _ => rfl)) a_nil) (ALen.cons ALen.nil)))))))))
(b_cons (s_ret e_bl)
b_nil)
b_nil)
(b_cons (s_ret (e_and (e_gt (e_s_t (e_item (e_varT (pv 7)) (e_s_t e_int) (fun _ _ => rfl))) (e_s_t e_int)) (e_and (e_eq hr.units (e_s_t (e_callD (ok__law_divisor B) hr (by decide) tk_of (by rfl) (a_cons (e_item (e_varT (pv 7)) (e_s_t e_int) (fun _ _ => rfl)) (a_cons (e_item (e_varT (pv 7)) (e_s_t e_int) (fun _ _ => rfl)) a_nil)) (ALen.cons (ALen.cons ALen.nil)))) (e_s_t e_int)) (e_one (e_eq hr.units (e_s_t (e_mul (e_s_t (e_item (e_varT (pv 7)) (e_s_t e_int) (fun _ _ => rfl))) (e_varT (pv 5)))) (e_s_t (e_mul (e_varT (pv 4)) (e_s_t (e_item (e_varT (pv 7)) (e_s_t e_int) (fun _ _ => rfl))))))))))
b_nil))))))))
theorem ok__law_worth_right (B : Tx K mg) : Okd P w K mg base "_law_worth_right" ["_law_poly", "_law_part_here"] 5 2 false F__law_worth_right := def_ok B.d__law_worth_right sc__law_worth_right rfl (fun z => nomatch z) fun f cdv A outer s H E hr => bd__law_worth_right B hr
theorem bd__law_row_right (B : Tx K mg) {f : Addr} {cdv : Value} {A : Around} {outer : List PySem.Env} {s : Shared} {H : Hp} {E : XK} (hr : Room 1 (A.deeper (envOfC "_law_row_right" (defScope st__law_row_right) s.heap.objs.size f cdv))) :
    BJ (cxOf (L2N.CX P w) P w K mg base ["_law_found", "_law_due", "_law_number_here"] "_law_row_right" (defScope st__law_row_right) f cdv A outer s H E) (fun cls d _ H => E cls d H) false (defBody st__law_row_right) D__law_row_right :=
  (b_cons (s_if (t_w (w_or (t_not (t_val (e_isi (n := "list") B.n_isinstance (by rfl) (e_varT (pv 0)) (pe_bltn (by rfl) B.n_list (by decide +kernel) rfl)))) (w_or1 (t_not (t_val (e_all rfl B.n_all (by rfl) (a_cons (e_f_t (e_lc (own := [("_law_number_here", 2)]) rfl sc__law_row_right.nd (i_seq (e_var (pv 0))) (blkOk_by (own := [("_law_number_here", 2)]) (N := ["_law_found", "_law_due", "_law_number_here"]) (sc := defScope st__law_row_right) (by decide +kernel)) (by decide) (fun _ _ _ _ _ => (g_name (pg_name (i := 2) sc__law_row_right.nd rfl (Or.inl rfl)))) (fun _ _ _ _ _ => c_nil) (fun _ _ _ _ _ => (e_callD (ok__law_whole B) hr (by decide) takesN (by rfl) (a_cons (e_var (pv 2)) a_nil) (ALen.cons ALen.nil))))) a_nil)))))))
(b_cons (s_ret e_bl)
b_nil)
b_nil)
(b_cons (s_ret (e_eq hr.units (e_varT (pv 0)) (e_varT (pv 1))))
b_nil))
theorem ok__law_row_right (B : Tx K mg) : Okd P w K mg base "_law_row_right" ["_law_found", "_law_due"] 2 2 false F__law_row_right := def_ok B.d__law_row_right sc__law_row_right rfl (fun z => nomatch z) fun f cdv A outer s H E hr => bd__law_row_right B hr
theorem bd__law_product (B : Tx K mg) {f : Addr} {cdv : Value} {A : Around} {outer : List PySem.Env} {s : Shared} {H : Hp} {E : XK} (hr : Room 0 (A.deeper (envOfC "_law_product" (defScope st__law_product) s.heap.objs.size f cdv))) :
    BJ (cxOf (L2N.CX P w) P w K mg base ["_law_one", "_law_other", "_law_due", "_law_k", "_law_m"] "_law_product" (defScope st__law_product) f cdv A outer s H E) (fun cls d _ H => E cls d H) true (defBody st__law_product) D__law_product :=
  (b_cons (lcs (i := 2) (own := [("_law_k", 3)]) (q_lcO (by decide)) rfl sc__law_product.nd rfl rfl (sw_true rfl rfl rfl (by decide +kernel)) (i_rng1 B.n_range (by rfl) (a_cons (e_s_t (e_sub (e_s_t (e_add (e_s_t (e_len B.n_len (by rfl) (a_cons (e_varT (pv 0)) a_nil))) (e_s_t (e_len B.n_len (by rfl) (a_cons (e_varT (pv 1)) a_nil))))) (e_s_t e_int))) a_nil)) (blkOk_by (own := [("_law_k", 3)]) (N := ["_law_one", "_law_other", "_law_due", "_law_k", "_law_m"]) (sc := defScope st__law_product) (by decide +kernel)) (fun _ _ _ _ _ => (g_name (pg_name (i := 3) sc__law_product.nd rfl (Or.inl rfl)))) (fun _ _ _ _ _ => c_nil) (fun _ _ _ _ _ => e_int))
(b_cons (s_for hp_of rfl (i_rng1 B.n_range (by rfl) (a_cons (e_s_t (e_len B.n_len (by rfl) (a_cons (e_varT (pv 0)) a_nil))) a_nil)) (g_name (pg_name (i := 3) sc__law_product.nd rfl (Or.inl rfl)))
(b_cons (s_for hp_of rfl (i_rng1 B.n_range (by rfl) (a_cons (e_s_t (e_len B.n_len (by rfl) (a_cons (e_varT (pv 1)) a_nil))) a_nil)) (g_name (pg_name (i := 4) sc__law_product.nd rfl (Or.inl rfl)))
(b_cons (s_setI (i := 2) (pv 2) (e_add (e_s_t (e_item (e_varT (pv 2)) (e_s_t (e_add (e_varT (pv 3)) (e_varT (pv 4)))) (fun _ _ => rfl))) (e_s_t (e_mul (e_s_t (e_item (e_varT (pv 0)) (e_varT (pv 3)) (fun _ _ => rfl))) (e_s_t (e_item (e_varT (pv 1)) (e_varT (pv 4)) (fun _ _ => rfl)))))) (e_add (e_varT (pv 3)) (e_varT (pv 4))))
b_nil))
b_nil))
(b_cons (s_retO (i := 2) (pv 2))
b_nil)))
theorem ok__law_product (B : Tx K mg) : Okd P w K mg base "_law_product" ["_law_one", "_law_other"] 1 2 true F__law_product := def_ok B.d__law_product sc__law_product rfl (fun _ => (nn_seqR (nn_seqR (nn_seqL (nn_retO _))))) fun f cdv A outer s H E hr => bd__law_product B hr
theorem bd__law_odd (B : Tx K mg) {f : Addr} {cdv : Value} {A : Around} {outer : List PySem.Env} {s : Shared} {H : Hp} {E : XK} (hr : Room 0 (A.deeper (envOfC "_law_odd" (defScope st__law_odd) s.heap.objs.size f cdv))) :
    BJ (cxOf (L2N.CX P w) P w K mg base ["_law_cell", "_law_far", "_law_some"] "_law_odd" (defScope st__law_odd) f cdv A outer s H E) (fun cls d _ H => E cls d H) false (defBody st__law_odd) D__law_odd :=
  (b_cons (s_set (i := 1) sc__law_odd.nd rfl (Or.inl rfl) (e_mod (e_s_t (e_fdiv (e_varT (pv 0)) (e_s_t e_int))) (e_s_t (e_pow (e_s_t e_int) (e_s_t e_int)))))
(b_cons (s_set (i := 2) sc__law_odd.nd rfl (Or.inl rfl) (e_f_s (e_lst (a_cons (e_tup (a_cons e_int (a_cons (e_var (pv 1)) a_nil))) (a_cons e_str (a_cons e_non (a_cons e_bl (a_cons (e_var (pv 1)) (a_cons (e_f_s (e_lst a_nil)) (a_cons (e_f_s (e_lst (a_cons (e_add (e_s_t e_int) (e_varT (pv 1))) a_nil))) (a_cons (e_f_s (e_lst (a_cons (e_var (pv 1)) (a_cons e_int (a_cons e_int a_nil))))) (a_cons (e_add (e_f_t (e_repL (e_f_t (e_lst (a_cons e_int a_nil))) (e_s_t e_int))) (e_f_t (e_lst (a_cons (e_add (e_s_t e_int) (e_varT (pv 1))) a_nil)))) a_nil))))))))))))
(b_cons (s_ret (e_item (e_s_t (e_add (e_varT (pv 2)) (e_f_t (e_lst (a_cons (e_f_s (e_lst (a_cons (e_var (pv 1)) (a_cons e_bl a_nil)))) (a_cons (e_f_s (e_lst (a_cons (e_var (pv 1)) (a_cons e_str a_nil)))) (a_cons (e_f_s (e_lst (a_cons (e_tup (a_cons (e_var (pv 1)) (a_cons e_int a_nil))) (a_cons e_int a_nil)))) a_nil))))))) (e_s_t (e_mod (e_varT (pv 0)) (e_s_t e_int))) (fun _ _ => rfl)))
b_nil)))
theorem ok__law_odd (B : Tx K mg) : Okd P w K mg base "_law_odd" ["_law_cell"] 1 1 false F__law_odd := def_ok B.d__law_odd sc__law_odd rfl (fun z => nomatch z) fun f cdv A outer s H E hr => bd__law_odd B hr
theorem bd__law_refused (B : Tx K mg) {f : Addr} {cdv : Value} {A : Around} {outer : List PySem.Env} {s : Shared} {H : Hp} {E : XK} (hr : Room 4 (A.deeper (envOfC "_law_refused" (defScope st__law_refused) s.heap.objs.size f cdv))) :
    BJ (cxOf (L2N.CX P w) P w K mg base ["_law_way", "_law_thing", "_law_poly", "_law_told", "e"] "_law_refused" (defScope st__law_refused) f cdv A outer s H E) (fun cls d _ H => E cls d H) false (defBody st__law_refused) D__law_refused :=
  (b_cons (s_setO (i := 3) sc__law_refused.nd rfl (Or.inl rfl) (e_lst a_nil))
(b_cons (s_try (i := 4) rfl rfl sc__law_refused.nd rfl rfl ⟨by rfl, by decide, .inl B.u_LeftError.choose_spec⟩ tk_of (fun c hc C h => B.ke c hc C _ h B.u_LeftError.choose_spec) (fun W pn xe tk hp => (b_cons (s_if (t_eq hr.units (e_varT (pv 0)) (e_s_t e_int))
(b_cons (s_expr (e_callD (ok_slope_of B) hr (by decide) tk (by rfl) (a_cons (e_var (pv 1)) a_nil) (ALen.cons ALen.nil)))
b_nil)
(b_cons (s_if (t_eq hr.units (e_varT (pv 0)) (e_s_t e_int))
(b_cons (s_expr (e_callD (ok_product_of B) hr (by decide) tk (by rfl) (a_cons (e_var (pv 1)) (a_cons (e_var (pv 2)) a_nil)) (ALen.cons (ALen.cons ALen.nil))))
b_nil)
(b_cons (s_expr (e_callD (ok_product_of B) hr (by decide) tk (by rfl) (a_cons (e_var (pv 2)) (a_cons (e_var (pv 1)) a_nil)) (ALen.cons (ALen.cons ALen.nil))))
b_nil))
b_nil))
b_nil)) (fun p pn c C hc hP hot => (b_cons (s_setO (i := 3) sc__law_refused.nd rfl (Or.inl rfl) (e_lst (a_cons (e_isX ⟨p.2, C, List.mem_cons_self, hP⟩ B.n_isinstance (by rfl) (pv 4) (ClsN.ty (pe_bltn (by rfl) B.n_ValueError (by decide +kernel) rfl)) (fun C h => B.kv _ hc C h)) (a_cons (e_isX ⟨p.2, C, List.mem_cons_self, hP⟩ B.n_isinstance (by rfl) (pv 4) (ClsN.own (by rfl) B.u_NoPolynomial.choose_spec (by decide)) (fun C h => B.kq _ hc "NoPolynomial" (by decide) C _ h B.u_NoPolynomial.choose_spec)) (a_cons (e_isXT (ds := ["NoPrime", "NoFraction", "NoPlace"]) ⟨p.2, C, List.mem_cons_self, hP⟩ B.n_isinstance (by rfl) (pv 4) (ClsL.cons (ClsN.own (by rfl) B.u_NoPrime.choose_spec (by decide)) (ClsL.cons (ClsN.own (by rfl) B.u_NoFraction.choose_spec (by decide)) (ClsL.cons (ClsN.own (by rfl) B.u_NoPlace.choose_spec (by decide)) ClsL.nil (by rfl)) (by rfl)) (by rfl)) (by decide) (fun C h => (.cons ((fun C h => B.kq _ hc "NoPrime" (by decide) C _ h B.u_NoPrime.choose_spec) C h) (.cons ((fun C h => B.kq _ hc "NoFraction" (by decide) C _ h B.u_NoFraction.choose_spec) C h) (.cons ((fun C h => B.kq _ hc "NoPlace" (by decide) C _ h B.u_NoPlace.choose_spec) C h) .nil))))) a_nil)))))
(b_cons (s_app (i := 3) (pv 3) (e_isXT (ds := ["NoFigures", "NoText", "Unlike", "NoQuotient", "NoPower", "TooFew"]) ⟨p.2, C, List.mem_cons_self, hP⟩ B.n_isinstance (by rfl) (pv 4) (ClsL.cons (ClsN.own (by rfl) B.u_NoFigures.choose_spec (by decide)) (ClsL.cons (ClsN.own (by rfl) B.u_NoText.choose_spec (by decide)) (ClsL.cons (ClsN.own (by rfl) B.u_Unlike.choose_spec (by decide)) (ClsL.cons (ClsN.own (by rfl) B.u_NoQuotient.choose_spec (by decide)) (ClsL.cons (ClsN.own (by rfl) B.u_NoPower.choose_spec (by decide)) (ClsL.cons (ClsN.own (by rfl) B.u_TooFew.choose_spec (by decide)) ClsL.nil (by rfl)) (by rfl)) (by rfl)) (by rfl)) (by rfl)) (by rfl)) (by decide) (fun C h => (.cons ((fun C h => B.kq _ hc "NoFigures" (by decide) C _ h B.u_NoFigures.choose_spec) C h) (.cons ((fun C h => B.kq _ hc "NoText" (by decide) C _ h B.u_NoText.choose_spec) C h) (.cons ((fun C h => B.kq _ hc "Unlike" (by decide) C _ h B.u_Unlike.choose_spec) C h) (.cons ((fun C h => B.kq _ hc "NoQuotient" (by decide) C _ h B.u_NoQuotient.choose_spec) C h) (.cons ((fun C h => B.kq _ hc "NoPower" (by decide) C _ h B.u_NoPower.choose_spec) C h) (.cons ((fun C h => B.kq _ hc "TooFew" (by decide) C _ h B.u_TooFew.choose_spec) C h) .nil)))))))))
(b_cons (s_app (i := 3) (pv 3) (e_isXT (ds := ["NoSize", "NoDepth", "NoRoot", "NotNear"]) ⟨p.2, C, List.mem_cons_self, hP⟩ B.n_isinstance (by rfl) (pv 4) (ClsL.cons (ClsN.own (by rfl) B.u_NoSize.choose_spec (by decide)) (ClsL.cons (ClsN.own (by rfl) B.u_NoDepth.choose_spec (by decide)) (ClsL.cons (ClsN.own (by rfl) B.u_NoRoot.choose_spec (by decide)) (ClsL.cons (ClsN.own (by rfl) B.u_NotNear.choose_spec (by decide)) ClsL.nil (by rfl)) (by rfl)) (by rfl)) (by rfl)) (by decide) (fun C h => (.cons ((fun C h => B.kq _ hc "NoSize" (by decide) C _ h B.u_NoSize.choose_spec) C h) (.cons ((fun C h => B.kq _ hc "NoDepth" (by decide) C _ h B.u_NoDepth.choose_spec) C h) (.cons ((fun C h => B.kq _ hc "NoRoot" (by decide) C _ h B.u_NoRoot.choose_spec) C h) (.cons ((fun C h => B.kq _ hc "NotNear" (by decide) C _ h B.u_NotNear.choose_spec) C h) .nil)))))))
b_nil)))))
(b_cons (s_ret (e_eq hr.units (e_varT (pv 3)) (e_f_t (e_lst (a_cons e_bl (a_cons e_bl (a_cons e_bl (a_cons e_bl (a_cons e_bl a_nil)))))))))
b_nil)))
theorem ok__law_refused (B : Tx K mg) : Okd P w K mg base "_law_refused" ["_law_way", "_law_thing", "_law_poly"] 5 3 false F__law_refused := def_ok B.d__law_refused sc__law_refused rfl (fun z => nomatch z) fun f cdv A outer s H E hr => bd__law_refused B hr
theorem bd_law (B : Tx K mg) {f : Addr} {cdv : Value} {A : Around} {outer : List PySem.Env} {s : Shared} {H : Hp} {E : XK} (hr : Room 5 (A.deeper (envOfC "law" (defScope st_law) s.heap.objs.size f cdv))) :
    BJ (cxOf (L2N.CX P w) P w K mg base ["_law_script", "_law_poly", "_law_part_here", "_law_truth", "_law_one", "_law_other", "_law_kept", "_law_slope", "_law_due", "_law_made", "_law_k", "_law_cell", "_law_thing"] "law" (defScope st_law) f cdv A outer s H E) (fun cls d _ H => E cls d H) false (defBody st_law) D_law :=
  (b_cons (s_set (i := 1) sc_law.nd rfl (Or.inl rfl) (e_f_s (e_callD (ok__law_list B) hr (by decide) tk_of (by rfl) (a_cons (e_f_s (e_lc (own := [("_law_k", 10)]) rfl sc_law.nd (i_rng1 B.n_range (by rfl) (a_cons (e_s_t (e_add (e_s_t e_int) (e_s_t (e_mod (e_s_t (e_callD (ok__law_cell_at B) hr (by decide) tk_of (by rfl) (a_cons (e_var (pv 0)) (a_cons e_int a_nil)) (ALen.cons (ALen.cons ALen.nil)))) (e_s_t e_int))))) a_nil)) (blkOk_by (own := [("_law_k", 10)]) (N := ["_law_script", "_law_poly", "_law_part_here", "_law_truth", "_law_one", "_law_other", "_law_kept", "_law_slope", "_law_due", "_law_made", "_law_k", "_law_cell", "_law_thing"]) (sc := defScope st_law) (by decide +kernel)) (by decide) (fun _ _ _ _ _ => (g_name (pg_name (i := 10) sc_law.nd rfl (Or.inl rfl)))) (fun _ _ _ _ _ => c_nil) (fun _ _ _ _ _ => (e_callD (ok__law_cell_at B) hr (by decide) takesN (by rfl) (a_cons (e_var (pv 0)) (a_cons (e_add (e_s_t e_int) (e_varT (pv 10))) a_nil)) (ALen.cons (ALen.cons ALen.nil)))))) a_nil) (ALen.cons ALen.nil))))
(b_cons (s_set (i := 2) sc_law.nd rfl (Or.inl rfl) (e_callD (ok__law_part B) hr (by decide) tk_of (by rfl) (a_cons (e_callD (ok__law_cell_at B) hr (by decide) tk_of (by rfl) (a_cons (e_var (pv 0)) (a_cons e_int a_nil)) (ALen.cons (ALen.cons ALen.nil))) (a_cons (e_callD (ok__law_cell_at B) hr (by decide) tk_of (by rfl) (a_cons (e_var (pv 0)) (a_cons e_int a_nil)) (ALen.cons (ALen.cons ALen.nil))) a_nil)) (ALen.cons (ALen.cons ALen.nil))))
(b_cons (s_set (i := 3) sc_law.nd rfl (Or.inl rfl) (e_callD (ok_is_poly B) hr (by decide) tk_of (by rfl) (a_cons (e_var (pv 1)) a_nil) (ALen.cons ALen.nil)))
(b_cons (s_if (t_w (w_or (t_not (t_val (e_callD (ok__law_worth_right B) hr (by decide) tk_of (by rfl) (a_cons (e_var (pv 1)) (a_cons (e_var (pv 2)) a_nil)) (ALen.cons (ALen.cons ALen.nil))))) (w_or (t_not (t_val (e_isi (n := "bool") B.n_isinstance (by rfl) (e_varT (pv 3)) (pe_bltn (by rfl) B.n_bool (by decide +kernel) rfl)))) (w_or1 (t_ne hr.units (e_varT (pv 3)) (e_s_t (e_gt (e_s_t (e_len B.n_len (by rfl) (a_cons (e_varT (pv 1)) a_nil))) (e_s_t e_int))))))))
(b_cons (s_ret e_bl)
b_nil)
b_nil)
(b_cons (s_if (t_w (w_or (t_not (t_val (e_callD (ok__law_worth_right B) hr (by decide) tk_of (by rfl) (a_cons (e_slice (e_s_t (e_add (e_varT (pv 1)) (e_f_t (e_lst (a_cons e_int a_nil))))) o_none (o_some e_int)) (a_cons (e_var (pv 2)) a_nil)) (ALen.cons (ALen.cons ALen.nil))))) (w_or1 (t_not (t_val (e_callD (ok__law_worth_right B) hr (by decide) tk_of (by rfl) (a_cons (e_f_s (e_lst (a_cons e_int a_nil))) (a_cons (e_var (pv 2)) a_nil)) (ALen.cons (ALen.cons ALen.nil))))))))
(b_cons (s_ret e_bl)
b_nil)
b_nil)
(b_cons (s_set (i := 4) sc_law.nd rfl (Or.inr rfl) (e_slice (e_s_t (e_add (e_f_t (e_lst (a_cons e_int a_nil))) (e_varT (pv 1)))) (o_some (e_neg (e_s_t e_int))) o_none))
(b_cons (s_set (i := 5) sc_law.nd rfl (Or.inl rfl) (e_f_s (e_callD (ok__law_list B) hr (by decide) tk_of (by rfl) (a_cons (e_f_s (e_lc (own := [("_law_k", 10)]) rfl sc_law.nd (i_rng1 B.n_range (by rfl) (a_cons (e_s_t (e_add (e_s_t e_int) (e_s_t (e_mod (e_s_t (e_callD (ok__law_cell_at B) hr (by decide) tk_of (by rfl) (a_cons (e_var (pv 0)) (a_cons e_int a_nil)) (ALen.cons (ALen.cons ALen.nil)))) (e_s_t e_int))))) a_nil)) (blkOk_by (own := [("_law_k", 10)]) (N := ["_law_script", "_law_poly", "_law_part_here", "_law_truth", "_law_one", "_law_other", "_law_kept", "_law_slope", "_law_due", "_law_made", "_law_k", "_law_cell", "_law_thing"]) (sc := defScope st_law) (by decide +kernel)) (by decide) (fun _ _ _ _ _ => (g_name (pg_name (i := 10) sc_law.nd rfl (Or.inl rfl)))) (fun _ _ _ _ _ => c_nil) (fun _ _ _ _ _ => (e_callD (ok__law_cell_at B) hr (by decide) takesN (by rfl) (a_cons (e_var (pv 0)) (a_cons (e_add (e_s_t e_int) (e_varT (pv 10))) a_nil)) (ALen.cons (ALen.cons ALen.nil)))))) a_nil) (ALen.cons ALen.nil))))
(b_cons (s_set (i := 6) sc_law.nd rfl (Or.inl rfl) (e_f_s (e_lst (a_cons (e_f_s (e_list B.n_list (by rfl) (a_cons (e_varT (pv 4)) a_nil))) (a_cons (e_f_s (e_list B.n_list (by rfl) (a_cons (e_varT (pv 5)) a_nil))) a_nil)))))
(b_cons (s_setO (i := 7) sc_law.nd rfl (Or.inl rfl) (e_callD (ok_slope_of B) hr (by decide) tk_of (by rfl) (a_cons (e_var (pv 4)) a_nil) (ALen.cons ALen.nil)))
(b_cons (s_if (t_w (w_or (t_not (t_val (e_lend (ok__law_row_right B) hr (by decide) tk_of (by rfl) (a_cons (e_varW (pv 7)) (a_cons (e_s_w (e_f_s (e_lc (own := [("_law_k", 10)]) rfl sc_law.nd (i_rng2 B.n_range (by rfl) (a_cons (e_s_t e_int) (a_cons (e_s_t (e_len B.n_len (by rfl) (a_cons (e_varT (pv 4)) a_nil))) a_nil))) (blkOk_by (own := [("_law_k", 10)]) (N := ["_law_script", "_law_poly", "_law_part_here", "_law_truth", "_law_one", "_law_other", "_law_kept", "_law_slope", "_law_due", "_law_made", "_law_k", "_law_cell", "_law_thing"]) (sc := defScope st_law) (by decide +kernel)) (by decide) (fun _ _ _ _ _ => (g_name (pg_name (i := 10) sc_law.nd rfl (Or.inl rfl)))) (fun _ _ _ _ _ => c_nil) (fun _ _ _ _ _ => (e_mul (e_varT (pv 10)) (e_s_t (e_item (e_varT (pv 4)) (e_varT (pv 10)) (fun _ _ => rfl)))))))) a_nil)) (ALen.cons (ALen.cons ALen.nil))))) (w_or1 (t_not (t_val (e_lend (ok__law_worth_right B) hr (by decide) tk_of (by rfl) (a_cons (e_varW (pv 7)) (a_cons (e_varW (pv 2)) a_nil)) (ALen.cons (ALen.cons ALen.nil))))))))
(b_cons (s_ret e_bl)
b_nil)
b_nil)
(b_cons (s_app (i := 7) (pv 7) e_int)
(b_cons (s_set (i := 8) sc_law.nd rfl (Or.inl rfl) (e_f_s (e_callD (ok__law_product B) hr (by decide) tk_of (by rfl) (a_cons (e_var (pv 4)) (a_cons (e_var (pv 5)) a_nil)) (ALen.cons (ALen.cons ALen.nil)))))
(b_cons (s_setO (i := 9) sc_law.nd rfl (Or.inl rfl) (e_callD (ok_product_of B) hr (by decide) tk_of (by rfl) (a_cons (e_var (pv 4)) (a_cons (e_var (pv 5)) a_nil)) (ALen.cons (ALen.cons ALen.nil))))
(b_cons (s_if (t_not (t_val (e_lend (ok__law_row_right B) hr (by decide) tk_of (by rfl) (a_cons (e_varW (pv 9)) (a_cons (e_varW (pv 8)) a_nil)) (ALen.cons (ALen.cons ALen.nil)))))
(b_cons (s_ret e_bl)
b_nil)
b_nil)
(b_cons (s_app (i := 9) (pv 9) e_int)
(b_cons (s_if (t_not (t_val (e_callD (ok__law_row_right B) hr (by decide) tk_of (by rfl) (a_cons (e_f_s (e_callD (ok_product_of B) hr (by decide) tk_of (by rfl) (a_cons (e_var (pv 5)) (a_cons (e_var (pv 4)) a_nil)) (ALen.cons (ALen.cons ALen.nil)))) (a_cons (e_var (pv 8)) a_nil)) (ALen.cons (ALen.cons ALen.nil)))))
(b_cons (s_ret e_bl)
b_nil)
b_nil)
(b_cons (s_if (t_w (w_or (t_not (t_val (e_callD (ok__law_row_right B) hr (by decide) tk_of (by rfl) (a_cons (e_f_s (e_callD (ok_product_of B) hr (by decide) tk_of (by rfl) (a_cons (e_var (pv 4)) (a_cons (e_var (pv 4)) a_nil)) (ALen.cons (ALen.cons ALen.nil)))) (a_cons (e_f_s (e_callD (ok__law_product B) hr (by decide) tk_of (by rfl) (a_cons (e_var (pv 4)) (a_cons (e_var (pv 4)) a_nil)) (ALen.cons (ALen.cons ALen.nil)))) a_nil)) (ALen.cons (ALen.cons ALen.nil))))) (w_or1 (t_ne hr.units (e_f_t (e_lst (a_cons (e_var (pv 4)) (a_cons (e_var (pv 5)) a_nil)))) (e_varT (pv 6))))))
(b_cons (s_ret e_bl)
b_nil)
b_nil)
(b_cons (s_for hp_of rfl (i_rng2 B.n_range (by rfl) (a_cons (e_s_t e_int) (a_cons (e_s_t (e_max2 rfl B.n_max (by rfl) (a_cons (e_s_t e_int) (a_cons (e_s_t (e_min2 rfl B.n_min (by rfl) (a_cons (e_s_t (e_len B.n_len (by rfl) (a_cons (e_varT (pv 0)) a_nil))) (a_cons (e_s_t e_int) a_nil)))) a_nil)))) a_nil))) (g_name (pg_name (i := 10) sc_law.nd rfl (Or.inl rfl)))
(b_cons (s_set (i := 11) sc_law.nd rfl (Or.inl rfl) (e_callD (ok__law_cell_at B) hr (by decide) tk_of (by rfl) (a_cons (e_var (pv 0)) (a_cons (e_var (pv 10)) a_nil)) (ALen.cons (ALen.cons ALen.nil))))
(b_cons (s_set (i := 12) sc_law.nd rfl (Or.inl rfl) (e_callD (ok__law_odd B) hr (by decide) tk_of (by rfl) (a_cons (e_var (pv 11)) a_nil) (ALen.cons ALen.nil)))
(b_cons (s_if (t_w (w_or (t_notB (e_s_t (e_callD (ok_is_poly B) hr (by decide) tk_of (by rfl) (a_cons (e_var (pv 12)) a_nil) (ALen.cons ALen.nil))) (e_s_t e_bl)) (w_or1 (t_not (t_val (e_callD (ok__law_refused B) hr (by decide) tk_of (by rfl) (a_cons (e_mod (e_s_t (e_fdiv (e_varT (pv 11)) (e_s_t e_int))) (e_s_t e_int)) (a_cons (e_var (pv 12)) (a_cons (e_var (pv 5)) a_nil))) (ALen.cons (ALen.cons (ALen.cons ALen.nil)))))))))
(b_cons (s_ret e_bl)
b_nil)
b_nil)
b_nil))))
(b_cons (s_ret (e_and (e_callD (ok__law_row_right B) hr (by decide) tk_of (by rfl) (a_cons (e_f_s (e_callD (ok_slope_of B) hr (by decide) tk_of (by rfl) (a_cons (e_var (pv 4)) a_nil) (ALen.cons ALen.nil))) (a_cons (e_f_s (e_lc (own := [("_law_k", 10)]) rfl sc_law.nd (i_rng2 B.n_range (by rfl) (a_cons (e_s_t e_int) (a_cons (e_s_t (e_len B.n_len (by rfl) (a_cons (e_varT (pv 4)) a_nil))) a_nil))) (blkOk_by (own := [("_law_k", 10)]) (N := ["_law_script", "_law_poly", "_law_part_here", "_law_truth", "_law_one", "_law_other", "_law_kept", "_law_slope", "_law_due", "_law_made", "_law_k", "_law_cell", "_law_thing"]) (sc := defScope st_law) (by decide +kernel)) (by decide) (fun _ _ _ _ _ => (g_name (pg_name (i := 10) sc_law.nd rfl (Or.inl rfl)))) (fun _ _ _ _ _ => c_nil) (fun _ _ _ _ _ => (e_mul (e_varT (pv 10)) (e_s_t (e_item (e_varT (pv 4)) (e_varT (pv 10)) (fun _ _ => rfl))))))) a_nil)) (ALen.cons (ALen.cons ALen.nil))) (e_one (e_eq hr.units (e_f_t (e_lst (a_cons (e_var (pv 4)) (a_cons (e_var (pv 5)) a_nil)))) (e_varT (pv 6))))))
b_nil)))))))))))))))))))
end
theorem all_mk {l : PySem.W.OpenLaw} {w : World} {K : PySem.W.Frag} {h : Heap} {mg : Str → Option Value} {fa : Addr} (X : K.In h) (G : h.Ns mainGlobals mg) (hfa : mg "law" = some (.ref fa))
    {f0 : Addr} {od0 an0 : Option Addr} {sl0 : Array (Option Value)} {oc0 kV0 dc0 pm0 cd0 ct0 : Value}
    {f1 : Addr} {od1 an1 : Option Addr} {sl1 : Array (Option Value)} {oc1 kV1 dc1 pm1 cd1 ct1 : Value}
    {f2 : Addr} {od2 an2 : Option Addr} {sl2 : Array (Option Value)} {oc2 kV2 dc2 pm2 cd2 ct2 : Value} {T2 : Addr} {td2 : Option Addr} {tc2 : Value} {tm2 : Nat} {tt2 : Tok} {tl2 : Array (Option Value)}
    {f3 : Addr} {od3 an3 : Option Addr} {sl3 : Array (Option Value)} {oc3 kV3 dc3 pm3 cd3 ct3 : Value}
    {f4 : Addr} {od4 an4 : Option Addr} {sl4 : Array (Option Value)} {oc4 kV4 dc4 pm4 cd4 ct4 : Value}
    {f5 : Addr} {od5 an5 : Option Addr} {sl5 : Array (Option Value)} {oc5 kV5 dc5 pm5 cd5 ct5 : Value}
    {f6 : Addr} {od6 an6 : Option Addr} {sl6 : Array (Option Value)} {oc6 kV6 dc6 pm6 cd6 ct6 : Value}
    {f7 : Addr} {od7 an7 : Option Addr} {sl7 : Array (Option Value)} {oc7 kV7 dc7 pm7 cd7 ct7 : Value}
    {f8 : Addr} {od8 an8 : Option Addr} {sl8 : Array (Option Value)} {oc8 kV8 dc8 pm8 cd8 ct8 : Value}
    {f9 : Addr} {od9 an9 : Option Addr} {sl9 : Array (Option Value)} {oc9 kV9 dc9 pm9 cd9 ct9 : Value}
    {f10 : Addr} {od10 an10 : Option Addr} {sl10 : Array (Option Value)} {oc10 kV10 dc10 pm10 cd10 ct10 : Value}
    {f11 : Addr} {od11 an11 : Option Addr} {sl11 : Array (Option Value)} {oc11 kV11 dc11 pm11 cd11 ct11 : Value}
    {f12 : Addr} {od12 an12 : Option Addr} {sl12 : Array (Option Value)} {oc12 kV12 dc12 pm12 cd12 ct12 : Value}
    {f13 : Addr} {od13 an13 : Option Addr} {sl13 : Array (Option Value)} {oc13 kV13 dc13 pm13 cd13 ct13 : Value}
    {f14 : Addr} {od14 an14 : Option Addr} {sl14 : Array (Option Value)} {oc14 kV14 dc14 pm14 cd14 ct14 : Value}
    {f15 : Addr} {od15 an15 : Option Addr} {sl15 : Array (Option Value)} {oc15 kV15 dc15 pm15 cd15 ct15 : Value}
    {f16 : Addr} {od16 an16 : Option Addr} {sl16 : Array (Option Value)} {oc16 kV16 dc16 pm16 cd16 ct16 : Value}
    {f17 : Addr} {od17 an17 : Option Addr} {sl17 : Array (Option Value)} {oc17 kV17 dc17 pm17 cd17 ct17 : Value}
    {f18 : Addr} {od18 an18 : Option Addr} {sl18 : Array (Option Value)} {oc18 kV18 dc18 pm18 cd18 ct18 : Value}
    {f19 : Addr} {od19 an19 : Option Addr} {sl19 : Array (Option Value)} {oc19 kV19 dc19 pm19 cd19 ct19 : Value}
    {f20 : Addr} {od20 an20 : Option Addr} {sl20 : Array (Option Value)} {oc20 kV20 dc20 pm20 cd20 ct20 : Value}
    {f21 : Addr} {od21 an21 : Option Addr} {sl21 : Array (Option Value)} {oc21 kV21 dc21 pm21 cd21 ct21 : Value}
    {t0 : Tok}
    {C0 : Addr}
    {C1 : Addr}
    {U0 : Addr}
    {U1 : Addr}
    {U2 : Addr}
    {U3 : Addr}
    {U4 : Addr}
    {U5 : Addr}
    {U6 : Addr}
    {U7 : Addr}
    {U8 : Addr}
    {U9 : Addr}
    {U10 : Addr}
    {U11 : Addr}
    {U12 : Addr}
    {U13 : Addr}
    {U14 : Addr}
    (a0 : PySem.W.nsIn K mainGlobals "is_whole" = some (some (.ref f0))) (l0 : K.lookup f0 = some ⟨oc0, od0, .func (PySem.W.fnOf "is_whole" "is_whole" (defArgs st_is_whole) (defBody st_is_whole) (defScope st_is_whole) .none kV0 dc0 pm0 an0 cd0 ct0), sl0⟩) (c0 : PySem.W.codeIn K cd0 "is_whole" = true) (k0 : PySem.W.keepIn K (.ref f0) = true)
    (a1 : PySem.W.nsIn K mainGlobals "divisor" = some (some (.ref f1))) (l1 : K.lookup f1 = some ⟨oc1, od1, .func (PySem.W.fnOf "divisor" "divisor" (defArgs st_divisor) (defBody st_divisor) (defScope st_divisor) .none kV1 dc1 pm1 an1 cd1 ct1), sl1⟩) (c1 : PySem.W.codeIn K cd1 "divisor" = true) (k1 : PySem.W.keepIn K (.ref f1) = true)
    (a2 : PySem.W.nsIn K mainGlobals "fraction" = some (some (.ref f2))) (l2 : K.lookup f2 = some ⟨oc2, od2, .func (PySem.W.fnOf "fraction" "fraction" (defArgs st_fraction) (defBody st_fraction) (defScope st_fraction) (.ref T2) kV2 dc2 pm2 an2 cd2 ct2), sl2⟩) (c2 : PySem.W.codeIn K cd2 "fraction" = true) (k2 : PySem.W.keepIn K (.ref f2) = true) (lt2 : K.lookup T2 = some ⟨tc2, td2, .seq #[.int 1 tt2] tm2, tl2⟩)
    (a3 : PySem.W.nsIn K mainGlobals "plus_fraction" = some (some (.ref f3))) (l3 : K.lookup f3 = some ⟨oc3, od3, .func (PySem.W.fnOf "plus_fraction" "plus_fraction" (defArgs st_plus_fraction) (defBody st_plus_fraction) (defScope st_plus_fraction) .none kV3 dc3 pm3 an3 cd3 ct3), sl3⟩) (c3 : PySem.W.codeIn K cd3 "plus_fraction" = true) (k3 : PySem.W.keepIn K (.ref f3) = true)
    (a4 : PySem.W.nsIn K mainGlobals "times_fraction" = some (some (.ref f4))) (l4 : K.lookup f4 = some ⟨oc4, od4, .func (PySem.W.fnOf "times_fraction" "times_fraction" (defArgs st_times_fraction) (defBody st_times_fraction) (defScope st_times_fraction) .none kV4 dc4 pm4 an4 cd4 ct4), sl4⟩) (c4 : PySem.W.codeIn K cd4 "times_fraction" = true) (k4 : PySem.W.keepIn K (.ref f4) = true)
    (a5 : PySem.W.nsIn K mainGlobals "is_poly" = some (some (.ref f5))) (l5 : K.lookup f5 = some ⟨oc5, od5, .func (PySem.W.fnOf "is_poly" "is_poly" (defArgs st_is_poly) (defBody st_is_poly) (defScope st_is_poly) .none kV5 dc5 pm5 an5 cd5 ct5), sl5⟩) (c5 : PySem.W.codeIn K cd5 "is_poly" = true) (k5 : PySem.W.keepIn K (.ref f5) = true)
    (a6 : PySem.W.nsIn K mainGlobals "want_poly" = some (some (.ref f6))) (l6 : K.lookup f6 = some ⟨oc6, od6, .func (PySem.W.fnOf "want_poly" "want_poly" (defArgs st_want_poly) (defBody st_want_poly) (defScope st_want_poly) .none kV6 dc6 pm6 an6 cd6 ct6), sl6⟩) (c6 : PySem.W.codeIn K cd6 "want_poly" = true) (k6 : PySem.W.keepIn K (.ref f6) = true)
    (a7 : PySem.W.nsIn K mainGlobals "worth_at" = some (some (.ref f7))) (l7 : K.lookup f7 = some ⟨oc7, od7, .func (PySem.W.fnOf "worth_at" "worth_at" (defArgs st_worth_at) (defBody st_worth_at) (defScope st_worth_at) .none kV7 dc7 pm7 an7 cd7 ct7), sl7⟩) (c7 : PySem.W.codeIn K cd7 "worth_at" = true) (k7 : PySem.W.keepIn K (.ref f7) = true)
    (a8 : PySem.W.nsIn K mainGlobals "slope_of" = some (some (.ref f8))) (l8 : K.lookup f8 = some ⟨oc8, od8, .func (PySem.W.fnOf "slope_of" "slope_of" (defArgs st_slope_of) (defBody st_slope_of) (defScope st_slope_of) .none kV8 dc8 pm8 an8 cd8 ct8), sl8⟩) (c8 : PySem.W.codeIn K cd8 "slope_of" = true) (k8 : PySem.W.keepIn K (.ref f8) = true)
    (a9 : PySem.W.nsIn K mainGlobals "product_of" = some (some (.ref f9))) (l9 : K.lookup f9 = some ⟨oc9, od9, .func (PySem.W.fnOf "product_of" "product_of" (defArgs st_product_of) (defBody st_product_of) (defScope st_product_of) .none kV9 dc9 pm9 an9 cd9 ct9), sl9⟩) (c9 : PySem.W.codeIn K cd9 "product_of" = true) (k9 : PySem.W.keepIn K (.ref f9) = true)
    (a10 : PySem.W.nsIn K mainGlobals "_law_cell_at" = some (some (.ref f10))) (l10 : K.lookup f10 = some ⟨oc10, od10, .func (PySem.W.fnOf "_law_cell_at" "_law_cell_at" (defArgs st__law_cell_at) (defBody st__law_cell_at) (defScope st__law_cell_at) .none kV10 dc10 pm10 an10 cd10 ct10), sl10⟩) (c10 : PySem.W.codeIn K cd10 "_law_cell_at" = true) (k10 : PySem.W.keepIn K (.ref f10) = true)
    (a11 : PySem.W.nsIn K mainGlobals "_law_whole" = some (some (.ref f11))) (l11 : K.lookup f11 = some ⟨oc11, od11, .func (PySem.W.fnOf "_law_whole" "_law_whole" (defArgs st__law_whole) (defBody st__law_whole) (defScope st__law_whole) .none kV11 dc11 pm11 an11 cd11 ct11), sl11⟩) (c11 : PySem.W.codeIn K cd11 "_law_whole" = true) (k11 : PySem.W.keepIn K (.ref f11) = true)
    (a12 : PySem.W.nsIn K mainGlobals "_law_number" = some (some (.ref f12))) (l12 : K.lookup f12 = some ⟨oc12, od12, .func (PySem.W.fnOf "_law_number" "_law_number" (defArgs st__law_number) (defBody st__law_number) (defScope st__law_number) .none kV12 dc12 pm12 an12 cd12 ct12), sl12⟩) (c12 : PySem.W.codeIn K cd12 "_law_number" = true) (k12 : PySem.W.keepIn K (.ref f12) = true)
    (a13 : PySem.W.nsIn K mainGlobals "_law_list" = some (some (.ref f13))) (l13 : K.lookup f13 = some ⟨oc13, od13, .func (PySem.W.fnOf "_law_list" "_law_list" (defArgs st__law_list) (defBody st__law_list) (defScope st__law_list) .none kV13 dc13 pm13 an13 cd13 ct13), sl13⟩) (c13 : PySem.W.codeIn K cd13 "_law_list" = true) (k13 : PySem.W.keepIn K (.ref f13) = true)
    (a14 : PySem.W.nsIn K mainGlobals "_law_divisor" = some (some (.ref f14))) (l14 : K.lookup f14 = some ⟨oc14, od14, .func (PySem.W.fnOf "_law_divisor" "_law_divisor" (defArgs st__law_divisor) (defBody st__law_divisor) (defScope st__law_divisor) .none kV14 dc14 pm14 an14 cd14 ct14), sl14⟩) (c14 : PySem.W.codeIn K cd14 "_law_divisor" = true) (k14 : PySem.W.keepIn K (.ref f14) = true)
    (a15 : PySem.W.nsIn K mainGlobals "_law_part" = some (some (.ref f15))) (l15 : K.lookup f15 = some ⟨oc15, od15, .func (PySem.W.fnOf "_law_part" "_law_part" (defArgs st__law_part) (defBody st__law_part) (defScope st__law_part) .none kV15 dc15 pm15 an15 cd15 ct15), sl15⟩) (c15 : PySem.W.codeIn K cd15 "_law_part" = true) (k15 : PySem.W.keepIn K (.ref f15) = true)
    (a16 : PySem.W.nsIn K mainGlobals "_law_worth_right" = some (some (.ref f16))) (l16 : K.lookup f16 = some ⟨oc16, od16, .func (PySem.W.fnOf "_law_worth_right" "_law_worth_right" (defArgs st__law_worth_right) (defBody st__law_worth_right) (defScope st__law_worth_right) .none kV16 dc16 pm16 an16 cd16 ct16), sl16⟩) (c16 : PySem.W.codeIn K cd16 "_law_worth_right" = true) (k16 : PySem.W.keepIn K (.ref f16) = true)
    (a17 : PySem.W.nsIn K mainGlobals "_law_row_right" = some (some (.ref f17))) (l17 : K.lookup f17 = some ⟨oc17, od17, .func (PySem.W.fnOf "_law_row_right" "_law_row_right" (defArgs st__law_row_right) (defBody st__law_row_right) (defScope st__law_row_right) .none kV17 dc17 pm17 an17 cd17 ct17), sl17⟩) (c17 : PySem.W.codeIn K cd17 "_law_row_right" = true) (k17 : PySem.W.keepIn K (.ref f17) = true)
    (a18 : PySem.W.nsIn K mainGlobals "_law_product" = some (some (.ref f18))) (l18 : K.lookup f18 = some ⟨oc18, od18, .func (PySem.W.fnOf "_law_product" "_law_product" (defArgs st__law_product) (defBody st__law_product) (defScope st__law_product) .none kV18 dc18 pm18 an18 cd18 ct18), sl18⟩) (c18 : PySem.W.codeIn K cd18 "_law_product" = true) (k18 : PySem.W.keepIn K (.ref f18) = true)
    (a19 : PySem.W.nsIn K mainGlobals "_law_odd" = some (some (.ref f19))) (l19 : K.lookup f19 = some ⟨oc19, od19, .func (PySem.W.fnOf "_law_odd" "_law_odd" (defArgs st__law_odd) (defBody st__law_odd) (defScope st__law_odd) .none kV19 dc19 pm19 an19 cd19 ct19), sl19⟩) (c19 : PySem.W.codeIn K cd19 "_law_odd" = true) (k19 : PySem.W.keepIn K (.ref f19) = true)
    (a20 : PySem.W.nsIn K mainGlobals "_law_refused" = some (some (.ref f20))) (l20 : K.lookup f20 = some ⟨oc20, od20, .func (PySem.W.fnOf "_law_refused" "_law_refused" (defArgs st__law_refused) (defBody st__law_refused) (defScope st__law_refused) .none kV20 dc20 pm20 an20 cd20 ct20), sl20⟩) (c20 : PySem.W.codeIn K cd20 "_law_refused" = true) (k20 : PySem.W.keepIn K (.ref f20) = true)
    (a21 : PySem.W.nsIn K mainGlobals "law" = some (some (.ref f21))) (l21 : K.lookup f21 = some ⟨oc21, od21, .func (PySem.W.fnOf "law" "law" (defArgs st_law) (defBody st_law) (defScope st_law) .none kV21 dc21 pm21 an21 cd21 ct21), sl21⟩) (c21 : PySem.W.codeIn K cd21 "law" = true) (k21 : PySem.W.keepIn K (.ref f21) = true)
    (z0 : PySem.W.nsIn K mainGlobals "ValueError" = some none)
    (z1 : PySem.W.nsIn K mainGlobals "abs" = some none)
    (z2 : PySem.W.nsIn K mainGlobals "all" = some none)
    (z3 : PySem.W.nsIn K mainGlobals "bool" = some none)
    (z4 : PySem.W.nsIn K mainGlobals "enumerate" = some none)
    (z5 : PySem.W.nsIn K mainGlobals "int" = some none)
    (z6 : PySem.W.nsIn K mainGlobals "isinstance" = some none)
    (z7 : PySem.W.nsIn K mainGlobals "len" = some none)
    (z8 : PySem.W.nsIn K mainGlobals "list" = some none)
    (z9 : PySem.W.nsIn K mainGlobals "max" = some none)
    (z10 : PySem.W.nsIn K mainGlobals "min" = some none)
    (z11 : PySem.W.nsIn K mainGlobals "range" = some none)
    (z12 : PySem.W.nsIn K mainGlobals "reversed" = some none)
    (z13 : PySem.W.nsIn K mainGlobals "tuple" = some none)
    (g0 : PySem.W.nsIn K mainGlobals "MOST_NUMBERS" = some (some (.int 9 t0)))
    (xa0 : PySem.W.nsIn K mainGlobals "NoFraction" = some (some (.ref C0))) (xe0 : PySem.W.excIn K C0 [.type "ValueError", .type "Exception", .type "BaseException", .type "object"] "ValueError.__new__" = true) (xk0 : PySem.W.keepIn K (.ref C0) = true) (xs0 : PySem.W.subIn K (.ref C0) (.type "BaseException") = some true) (xt0 : PySem.W.typeIn K (.ref C0) = some (.type "type"))
    (xa1 : PySem.W.nsIn K mainGlobals "NoPolynomial" = some (some (.ref C1))) (xe1 : PySem.W.excIn K C1 [.type "ValueError", .type "Exception", .type "BaseException", .type "object"] "ValueError.__new__" = true) (xk1 : PySem.W.keepIn K (.ref C1) = true) (xs1 : PySem.W.subIn K (.ref C1) (.type "BaseException") = some true) (xt1 : PySem.W.typeIn K (.ref C1) = some (.type "type"))
    (ua0 : PySem.W.nsIn K mainGlobals "LeftError" = some (some (.ref U0)))
    (ua1 : PySem.W.nsIn K mainGlobals "NoDepth" = some (some (.ref U1)))
    (ua2 : PySem.W.nsIn K mainGlobals "NoFigures" = some (some (.ref U2)))
    (ua3 : PySem.W.nsIn K mainGlobals "NoFraction" = some (some (.ref U3)))
    (ua4 : PySem.W.nsIn K mainGlobals "NoPlace" = some (some (.ref U4)))
    (ua5 : PySem.W.nsIn K mainGlobals "NoPolynomial" = some (some (.ref U5)))
    (ua6 : PySem.W.nsIn K mainGlobals "NoPower" = some (some (.ref U6)))
    (ua7 : PySem.W.nsIn K mainGlobals "NoPrime" = some (some (.ref U7)))
    (ua8 : PySem.W.nsIn K mainGlobals "NoQuotient" = some (some (.ref U8)))
    (ua9 : PySem.W.nsIn K mainGlobals "NoRoot" = some (some (.ref U9)))
    (ua10 : PySem.W.nsIn K mainGlobals "NoSize" = some (some (.ref U10)))
    (ua11 : PySem.W.nsIn K mainGlobals "NoText" = some (some (.ref U11)))
    (ua12 : PySem.W.nsIn K mainGlobals "NotNear" = some (some (.ref U12)))
    (ua13 : PySem.W.nsIn K mainGlobals "TooFew" = some (some (.ref U13)))
    (ua14 : PySem.W.nsIn K mainGlobals "Unlike" = some (some (.ref U14)))
    (lb : PySem.W.subIn K (.ref U0) (.type "BaseException") = some true) (ld : PySem.W.hasDictIn K U0 = true) (lt : PySem.W.typeIn K (.ref U0) = some (.type "type"))
    (q13 : PySem.W.findIn K (.ref U3) "__getattribute__" = some (some (.builtin "BaseException.__getattribute__"))) (q23 : PySem.W.findIn K (.ref U3) "__getattr__" = some none) (q33 : PySem.W.subIn K (.ref U3) (.type "BaseException") = some true) (q43 : PySem.W.hasDictIn K U3 = true) (q53 : PySem.W.findIn K (.ref U3) "__class__" = some (some (.builtin "object.__class__"))) (q83 : PySem.W.mroIn K U3 (.type "object") = some true) (q93 : PySem.W.subIn K (.ref U3) (.ref U0) = some true) (qv3 : PySem.W.kitOne K (.ref U3) (.type "ValueError") = some true)
    (k3_1 : PySem.W.kitOne K (.ref U3) (.ref U1) = some false)
    (k3_2 : PySem.W.kitOne K (.ref U3) (.ref U2) = some false)
    (k3_3 : PySem.W.kitOne K (.ref U3) (.ref U3) = some true)
    (k3_4 : PySem.W.kitOne K (.ref U3) (.ref U4) = some false)
    (k3_5 : PySem.W.kitOne K (.ref U3) (.ref U5) = some false)
    (k3_6 : PySem.W.kitOne K (.ref U3) (.ref U6) = some false)
    (k3_7 : PySem.W.kitOne K (.ref U3) (.ref U7) = some false)
    (k3_8 : PySem.W.kitOne K (.ref U3) (.ref U8) = some false)
    (k3_9 : PySem.W.kitOne K (.ref U3) (.ref U9) = some false)
    (k3_10 : PySem.W.kitOne K (.ref U3) (.ref U10) = some false)
    (k3_11 : PySem.W.kitOne K (.ref U3) (.ref U11) = some false)
    (k3_12 : PySem.W.kitOne K (.ref U3) (.ref U12) = some false)
    (k3_13 : PySem.W.kitOne K (.ref U3) (.ref U13) = some false)
    (k3_14 : PySem.W.kitOne K (.ref U3) (.ref U14) = some false)
    (q15 : PySem.W.findIn K (.ref U5) "__getattribute__" = some (some (.builtin "BaseException.__getattribute__"))) (q25 : PySem.W.findIn K (.ref U5) "__getattr__" = some none) (q35 : PySem.W.subIn K (.ref U5) (.type "BaseException") = some true) (q45 : PySem.W.hasDictIn K U5 = true) (q55 : PySem.W.findIn K (.ref U5) "__class__" = some (some (.builtin "object.__class__"))) (q85 : PySem.W.mroIn K U5 (.type "object") = some true) (q95 : PySem.W.subIn K (.ref U5) (.ref U0) = some true) (qv5 : PySem.W.kitOne K (.ref U5) (.type "ValueError") = some true)
    (k5_1 : PySem.W.kitOne K (.ref U5) (.ref U1) = some false)
    (k5_2 : PySem.W.kitOne K (.ref U5) (.ref U2) = some false)
    (k5_3 : PySem.W.kitOne K (.ref U5) (.ref U3) = some false)
    (k5_4 : PySem.W.kitOne K (.ref U5) (.ref U4) = some false)
    (k5_5 : PySem.W.kitOne K (.ref U5) (.ref U5) = some true)
    (k5_6 : PySem.W.kitOne K (.ref U5) (.ref U6) = some false)
    (k5_7 : PySem.W.kitOne K (.ref U5) (.ref U7) = some false)
    (k5_8 : PySem.W.kitOne K (.ref U5) (.ref U8) = some false)
    (k5_9 : PySem.W.kitOne K (.ref U5) (.ref U9) = some false)
    (k5_10 : PySem.W.kitOne K (.ref U5) (.ref U10) = some false)
    (k5_11 : PySem.W.kitOne K (.ref U5) (.ref U11) = some false)
    (k5_12 : PySem.W.kitOne K (.ref U5) (.ref U12) = some false)
    (k5_13 : PySem.W.kitOne K (.ref U5) (.ref U13) = some false)
    (k5_14 : PySem.W.kitOne K (.ref U5) (.ref U14) = some false)
    (q6 : PySem.W.specialIn K (.builtin "object.__class__") "__get__" = some (some (.builtin "getset_descriptor.__get__"))) (q7 : PySem.W.takesIn K (.builtin "object.__class__") = some true)
    : ∃ fd : FuncData, (∀ (s : Shared) (v : Value), BindsTo s fd ⟨[v], []⟩ [("_law_script", v)]) ∧ ∀ base : Heap, K.In base → base.Ns mainGlobals mg → FnOk l.prog w K mg base (L2N.CX l.prog w) 6 fa fd ["_law_script"] (spLaw K) := by
  have e := hfa.symm.trans (PySem.W.mg_of X G a21)
  cases e
  have B : Tx K mg := ⟨defE_mk X G a0 l0 c0 k0 fun _ _ _ _ _ _ us hl => match us, hl with | [_], _ => rfl,
    defE_mk X G a1 l1 c1 k1 fun _ _ _ _ _ _ us hl => match us, hl with | [_, _], _ => rfl,
    defED_mk X G a2 l2 c2 k2 lt2 (fun _ _ _ _ _ _ _ us its hl h2 => match us, its, hl, h2 with | [_, _], [_], _, _ => ⟨_, rfl, rfl⟩) (fun _ _ _ _ _ _ _ us its hl h2 => match us, its, hl, h2 with | [_], [_], _, _ => ⟨_, rfl, rfl⟩),
    defE_mk X G a3 l3 c3 k3 fun _ _ _ _ _ _ us hl => match us, hl with | [_, _], _ => rfl,
    defE_mk X G a4 l4 c4 k4 fun _ _ _ _ _ _ us hl => match us, hl with | [_, _], _ => rfl,
    defE_mk X G a5 l5 c5 k5 fun _ _ _ _ _ _ us hl => match us, hl with | [_], _ => rfl,
    defE_mk X G a6 l6 c6 k6 fun _ _ _ _ _ _ us hl => match us, hl with | [_], _ => rfl,
    defE_mk X G a7 l7 c7 k7 fun _ _ _ _ _ _ us hl => match us, hl with | [_, _], _ => rfl,
    defE_mk X G a8 l8 c8 k8 fun _ _ _ _ _ _ us hl => match us, hl with | [_], _ => rfl,
    defE_mk X G a9 l9 c9 k9 fun _ _ _ _ _ _ us hl => match us, hl with | [_, _], _ => rfl,
    defE_mk X G a10 l10 c10 k10 fun _ _ _ _ _ _ us hl => match us, hl with | [_, _], _ => rfl,
    defE_mk X G a11 l11 c11 k11 fun _ _ _ _ _ _ us hl => match us, hl with | [_], _ => rfl,
    defE_mk X G a12 l12 c12 k12 fun _ _ _ _ _ _ us hl => match us, hl with | [_], _ => rfl,
    defE_mk X G a13 l13 c13 k13 fun _ _ _ _ _ _ us hl => match us, hl with | [_], _ => rfl,
    defE_mk X G a14 l14 c14 k14 fun _ _ _ _ _ _ us hl => match us, hl with | [_, _], _ => rfl,
    defE_mk X G a15 l15 c15 k15 fun _ _ _ _ _ _ us hl => match us, hl with | [_, _], _ => rfl,
    defE_mk X G a16 l16 c16 k16 fun _ _ _ _ _ _ us hl => match us, hl with | [_, _], _ => rfl,
    defE_mk X G a17 l17 c17 k17 fun _ _ _ _ _ _ us hl => match us, hl with | [_, _], _ => rfl,
    defE_mk X G a18 l18 c18 k18 fun _ _ _ _ _ _ us hl => match us, hl with | [_, _], _ => rfl,
    defE_mk X G a19 l19 c19 k19 fun _ _ _ _ _ _ us hl => match us, hl with | [_], _ => rfl,
    defE_mk X G a20 l20 c20 k20 fun _ _ _ _ _ _ us hl => match us, hl with | [_, _, _], _ => rfl,
    PySem.W.mg_none_of X G z0,
    PySem.W.mg_none_of X G z1,
    PySem.W.mg_none_of X G z2,
    PySem.W.mg_none_of X G z3,
    PySem.W.mg_none_of X G z4,
    PySem.W.mg_none_of X G z5,
    PySem.W.mg_none_of X G z6,
    PySem.W.mg_none_of X G z7,
    PySem.W.mg_none_of X G z8,
    PySem.W.mg_none_of X G z9,
    PySem.W.mg_none_of X G z10,
    PySem.W.mg_none_of X G z11,
    PySem.W.mg_none_of X G z12,
    PySem.W.mg_none_of X G z13,
    glI_mk X G g0,
    excE_mk X G xa0 xe0 xk0 xs0 xt0,
    excE_mk X G xa1 xe1 xk1 xs1 xt1,
    ⟨U0, PySem.W.mg_of X G ua0⟩,
    ⟨U1, PySem.W.mg_of X G ua1⟩,
    ⟨U2, PySem.W.mg_of X G ua2⟩,
    ⟨U3, PySem.W.mg_of X G ua3⟩,
    ⟨U4, PySem.W.mg_of X G ua4⟩,
    ⟨U5, PySem.W.mg_of X G ua5⟩,
    ⟨U6, PySem.W.mg_of X G ua6⟩,
    ⟨U7, PySem.W.mg_of X G ua7⟩,
    ⟨U8, PySem.W.mg_of X G ua8⟩,
    ⟨U9, PySem.W.mg_of X G ua9⟩,
    ⟨U10, PySem.W.mg_of X G ua10⟩,
    ⟨U11, PySem.W.mg_of X G ua11⟩,
    ⟨U12, PySem.W.mg_of X G ua12⟩,
    ⟨U13, PySem.W.mg_of X G ua13⟩,
    ⟨U14, PySem.W.mg_of X G ua14⟩,
    (fa_cons (fa_cons (kq_mk X G ua3 ua1 k3_1 (by decide)) (fa_cons (kq_mk X G ua3 ua2 k3_2 (by decide)) (fa_cons (kq_mk X G ua3 ua3 k3_3 (by decide)) (fa_cons (kq_mk X G ua3 ua4 k3_4 (by decide)) (fa_cons (kq_mk X G ua3 ua5 k3_5 (by decide)) (fa_cons (kq_mk X G ua3 ua6 k3_6 (by decide)) (fa_cons (kq_mk X G ua3 ua7 k3_7 (by decide)) (fa_cons (kq_mk X G ua3 ua8 k3_8 (by decide)) (fa_cons (kq_mk X G ua3 ua9 k3_9 (by decide)) (fa_cons (kq_mk X G ua3 ua10 k3_10 (by decide)) (fa_cons (kq_mk X G ua3 ua11 k3_11 (by decide)) (fa_cons (kq_mk X G ua3 ua12 k3_12 (by decide)) (fa_cons (kq_mk X G ua3 ua13 k3_13 (by decide)) (fa_cons (kq_mk X G ua3 ua14 k3_14 (by decide)) fa_nil)))))))))))))) (fa_cons (fa_cons (kq_mk X G ua5 ua1 k5_1 (by decide)) (fa_cons (kq_mk X G ua5 ua2 k5_2 (by decide)) (fa_cons (kq_mk X G ua5 ua3 k5_3 (by decide)) (fa_cons (kq_mk X G ua5 ua4 k5_4 (by decide)) (fa_cons (kq_mk X G ua5 ua5 k5_5 (by decide)) (fa_cons (kq_mk X G ua5 ua6 k5_6 (by decide)) (fa_cons (kq_mk X G ua5 ua7 k5_7 (by decide)) (fa_cons (kq_mk X G ua5 ua8 k5_8 (by decide)) (fa_cons (kq_mk X G ua5 ua9 k5_9 (by decide)) (fa_cons (kq_mk X G ua5 ua10 k5_10 (by decide)) (fa_cons (kq_mk X G ua5 ua11 k5_11 (by decide)) (fa_cons (kq_mk X G ua5 ua12 k5_12 (by decide)) (fa_cons (kq_mk X G ua5 ua13 k5_13 (by decide)) (fa_cons (kq_mk X G ua5 ua14 k5_14 (by decide)) fa_nil)))))))))))))) fa_nil)),
    (fa_cons (kv_mk X G ua3 qv3) (fa_cons (kv_mk X G ua5 qv5) fa_nil)),
    (fa_cons (ke_mk X G ua3 ua0 lb ld lt q93 ⟨q13, q23, q33, q43, q53, q6, q7, q83⟩) (fa_cons (ke_mk X G ua5 ua0 lb ld lt q95 ⟨q15, q25, q35, q45, q55, q6, q7, q85⟩) fa_nil))⟩
  exact ⟨_, fun s v => .of_eq rfl, fun base _ _ => law_impB law_true (fn_mk (fun_mk (st := st_law) l21 c21 k21) sc_law rfl (fun z => nomatch z) fun cdv A outer s H E hr => bd_law B hr)⟩
end K61
open PySem PySem.W PyProof.Rows
set_option maxHeartbeats 0 in
theorem PySem.Challenge.cw_leftnumbers_k61_worths_slopes_products_holds : PySem.Challenge.rw_leftnumbers_k61_worths_slopes_products.Holds := by
  w_on; o_law; k_head; (case hw => w_witness2)
  k_fill
  refine L2.walk_ofB (l := PySem.Challenge.rw_leftnumbers_k61_worths_slopes_products) (n := 63) (k := 6) (x := "_law_script") (CX := fun w => L2N.CX PySem.Challenge.rw_leftnumbers_k61_worths_slopes_products.prog w) (sp := fun w => PL.spLaw _) rfl (by decide) rfl ⟨rfl, by decide, by decide⟩ (fun w h Y => PySem.W.kIn_of Y) ?F (fun _ _ a ns hl hB hO hS => ⟨a, ns, rfl, hS, hO, hl, hB, fun _ _ e => e⟩) (fun _ _ _ _ _ h => PL.cx_none h)
  case F =>
    intro w mg fa h KX G hmg
    refine' K61.all_mk KX G hmg ?pl_a0 ?pl_l0 ?pl_c0 ?pl_k0 ?pl_a1 ?pl_l1 ?pl_c1 ?pl_k1 ?pl_a2 ?pl_l2 ?pl_c2 ?pl_k2 ?pl_lt2 ?pl_a3 ?pl_l3 ?pl_c3 ?pl_k3 ?pl_a4 ?pl_l4 ?pl_c4 ?pl_k4 ?pl_a5 ?pl_l5 ?pl_c5 ?pl_k5 ?pl_a6 ?pl_l6 ?pl_c6 ?pl_k6 ?pl_a7 ?pl_l7 ?pl_c7 ?pl_k7 ?pl_a8 ?pl_l8 ?pl_c8 ?pl_k8 ?pl_a9 ?pl_l9 ?pl_c9 ?pl_k9 ?pl_a10 ?pl_l10 ?pl_c10 ?pl_k10 ?pl_a11 ?pl_l11 ?pl_c11 ?pl_k11 ?pl_a12 ?pl_l12 ?pl_c12 ?pl_k12 ?pl_a13 ?pl_l13 ?pl_c13 ?pl_k13 ?pl_a14 ?pl_l14 ?pl_c14 ?pl_k14 ?pl_a15 ?pl_l15 ?pl_c15 ?pl_k15 ?pl_a16 ?pl_l16 ?pl_c16 ?pl_k16 ?pl_a17 ?pl_l17 ?pl_c17 ?pl_k17 ?pl_a18 ?pl_l18 ?pl_c18 ?pl_k18 ?pl_a19 ?pl_l19 ?pl_c19 ?pl_k19 ?pl_a20 ?pl_l20 ?pl_c20 ?pl_k20 ?pl_a21 ?pl_l21 ?pl_c21 ?pl_k21 ?pl_z0 ?pl_z1 ?pl_z2 ?pl_z3 ?pl_z4 ?pl_z5 ?pl_z6 ?pl_z7 ?pl_z8 ?pl_z9 ?pl_z10 ?pl_z11 ?pl_z12 ?pl_z13 ?pl_g0 ?pl_xa0 ?pl_xe0 ?pl_xk0 ?pl_xs0 ?pl_xt0 ?pl_xa1 ?pl_xe1 ?pl_xk1 ?pl_xs1 ?pl_xt1 ?pl_ua0 ?pl_ua1 ?pl_ua2 ?pl_ua3 ?pl_ua4 ?pl_ua5 ?pl_ua6 ?pl_ua7 ?pl_ua8 ?pl_ua9 ?pl_ua10 ?pl_ua11 ?pl_ua12 ?pl_ua13 ?pl_ua14 ?pl_lb ?pl_ld ?pl_lt ?pl_q13 ?pl_q23 ?pl_q33 ?pl_q43 ?pl_q53 ?pl_q83 ?pl_q93 ?pl_qv3 ?pl_k3_1 ?pl_k3_2 ?pl_k3_3 ?pl_k3_4 ?pl_k3_5 ?pl_k3_6 ?pl_k3_7 ?pl_k3_8 ?pl_k3_9 ?pl_k3_10 ?pl_k3_11 ?pl_k3_12 ?pl_k3_13 ?pl_k3_14 ?pl_q15 ?pl_q25 ?pl_q35 ?pl_q45 ?pl_q55 ?pl_q85 ?pl_q95 ?pl_qv5 ?pl_k5_1 ?pl_k5_2 ?pl_k5_3 ?pl_k5_4 ?pl_k5_5 ?pl_k5_6 ?pl_k5_7 ?pl_k5_8 ?pl_k5_9 ?pl_k5_10 ?pl_k5_11 ?pl_k5_12 ?pl_k5_13 ?pl_k5_14 ?pl_q6 ?pl_q7
    (case pl_a0 => k_is)
    (case pl_l0 => k_is)
    (case pl_c0 => k_is)
    (case pl_k0 => k_is)
    (case pl_a1 => k_is)
    (case pl_l1 => k_is)
    (case pl_c1 => k_is)
    (case pl_k1 => k_is)
    (case pl_a2 => k_is)
    (case pl_l2 => k_is)
    (case pl_c2 => k_is)
    (case pl_k2 => k_is)
    (case pl_lt2 => k_is)
    (case pl_a3 => k_is)
    (case pl_l3 => k_is)
    (case pl_c3 => k_is)
    (case pl_k3 => k_is)
    (case pl_a4 => k_is)
    (case pl_l4 => k_is)
    (case pl_c4 => k_is)
    (case pl_k4 => k_is)
    (case pl_a5 => k_is)
    (case pl_l5 => k_is)
    (case pl_c5 => k_is)
    (case pl_k5 => k_is)
    (case pl_a6 => k_is)
    (case pl_l6 => k_is)
    (case pl_c6 => k_is)
    (case pl_k6 => k_is)
    (case pl_a7 => k_is)
    (case pl_l7 => k_is)
    (case pl_c7 => k_is)
    (case pl_k7 => k_is)
    (case pl_a8 => k_is)
    (case pl_l8 => k_is)
    (case pl_c8 => k_is)
    (case pl_k8 => k_is)
    (case pl_a9 => k_is)
    (case pl_l9 => k_is)
    (case pl_c9 => k_is)
    (case pl_k9 => k_is)
    (case pl_a10 => k_is)
    (case pl_l10 => k_is)
    (case pl_c10 => k_is)
    (case pl_k10 => k_is)
    (case pl_a11 => k_is)
    (case pl_l11 => k_is)
    (case pl_c11 => k_is)
    (case pl_k11 => k_is)
    (case pl_a12 => k_is)
    (case pl_l12 => k_is)
    (case pl_c12 => k_is)
    (case pl_k12 => k_is)
    (case pl_a13 => k_is)
    (case pl_l13 => k_is)
    (case pl_c13 => k_is)
    (case pl_k13 => k_is)
    (case pl_a14 => k_is)
    (case pl_l14 => k_is)
    (case pl_c14 => k_is)
    (case pl_k14 => k_is)
    (case pl_a15 => k_is)
    (case pl_l15 => k_is)
    (case pl_c15 => k_is)
    (case pl_k15 => k_is)
    (case pl_a16 => k_is)
    (case pl_l16 => k_is)
    (case pl_c16 => k_is)
    (case pl_k16 => k_is)
    (case pl_a17 => k_is)
    (case pl_l17 => k_is)
    (case pl_c17 => k_is)
    (case pl_k17 => k_is)
    (case pl_a18 => k_is)
    (case pl_l18 => k_is)
    (case pl_c18 => k_is)
    (case pl_k18 => k_is)
    (case pl_a19 => k_is)
    (case pl_l19 => k_is)
    (case pl_c19 => k_is)
    (case pl_k19 => k_is)
    (case pl_a20 => k_is)
    (case pl_l20 => k_is)
    (case pl_c20 => k_is)
    (case pl_k20 => k_is)
    (case pl_a21 => k_is)
    (case pl_l21 => k_is)
    (case pl_c21 => k_is)
    (case pl_k21 => k_is)
    (case pl_z0 => k_is)
    (case pl_z1 => k_is)
    (case pl_z2 => k_is)
    (case pl_z3 => k_is)
    (case pl_z4 => k_is)
    (case pl_z5 => k_is)
    (case pl_z6 => k_is)
    (case pl_z7 => k_is)
    (case pl_z8 => k_is)
    (case pl_z9 => k_is)
    (case pl_z10 => k_is)
    (case pl_z11 => k_is)
    (case pl_z12 => k_is)
    (case pl_z13 => k_is)
    (case pl_g0 => k_is)
    (case pl_xa0 => k_is)
    (case pl_xe0 => k_exc)
    (case pl_xk0 => k_is)
    (case pl_xs0 => k_is)
    (case pl_xt0 => k_is)
    (case pl_xa1 => k_is)
    (case pl_xe1 => k_exc)
    (case pl_xk1 => k_is)
    (case pl_xs1 => k_is)
    (case pl_xt1 => k_is)
    (case pl_ua0 => k_is)
    (case pl_ua1 => k_is)
    (case pl_ua2 => k_is)
    (case pl_ua3 => k_is)
    (case pl_ua4 => k_is)
    (case pl_ua5 => k_is)
    (case pl_ua6 => k_is)
    (case pl_ua7 => k_is)
    (case pl_ua8 => k_is)
    (case pl_ua9 => k_is)
    (case pl_ua10 => k_is)
    (case pl_ua11 => k_is)
    (case pl_ua12 => k_is)
    (case pl_ua13 => k_is)
    (case pl_ua14 => k_is)
    (case pl_lb => k_is)
    (case pl_ld => k_is)
    (case pl_lt => k_is)
    (case pl_q13 => k_is)
    (case pl_q23 => k_is)
    (case pl_q33 => k_is)
    (case pl_q43 => k_is)
    (case pl_q53 => k_is)
    (case pl_q83 => k_is)
    (case pl_q93 => k_is)
    (case pl_qv3 => kit_is)
    (case pl_k3_1 => kit_is)
    (case pl_k3_2 => kit_is)
    (case pl_k3_3 => kit_is)
    (case pl_k3_4 => kit_is)
    (case pl_k3_5 => kit_is)
    (case pl_k3_6 => kit_is)
    (case pl_k3_7 => kit_is)
    (case pl_k3_8 => kit_is)
    (case pl_k3_9 => kit_is)
    (case pl_k3_10 => kit_is)
    (case pl_k3_11 => kit_is)
    (case pl_k3_12 => kit_is)
    (case pl_k3_13 => kit_is)
    (case pl_k3_14 => kit_is)
    (case pl_q15 => k_is)
    (case pl_q25 => k_is)
    (case pl_q35 => k_is)
    (case pl_q45 => k_is)
    (case pl_q55 => k_is)
    (case pl_q85 => k_is)
    (case pl_q95 => k_is)
    (case pl_qv5 => kit_is)
    (case pl_k5_1 => kit_is)
    (case pl_k5_2 => kit_is)
    (case pl_k5_3 => kit_is)
    (case pl_k5_4 => kit_is)
    (case pl_k5_5 => kit_is)
    (case pl_k5_6 => kit_is)
    (case pl_k5_7 => kit_is)
    (case pl_k5_8 => kit_is)
    (case pl_k5_9 => kit_is)
    (case pl_k5_10 => kit_is)
    (case pl_k5_11 => kit_is)
    (case pl_k5_12 => kit_is)
    (case pl_k5_13 => kit_is)
    (case pl_k5_14 => kit_is)
    (case pl_q6 => k_is)
    (case pl_q7 => k_is)
