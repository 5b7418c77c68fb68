import PyProof.Rows.All
import Wide.All
import OpenK.AllK
import Wide.FinOn
import HandS.ForMost
import HandS.ForExc
import HandS.Wide
import HandS.WideBits
import HandS.WideMore
import HandS.IsInst
import HandS.CallSlots
import HandS.Rev
import HandS.TupAny
import HandS.Flow
import HandS.Defaults
import HandS.EndBits
import HandS.HotCalls
import HandS.ExcIs
import HandS.SuiteRaise
import PyProof.LongRange
import HandS.Deep
import HandS.Flt
import HandS.TryOnly
import HandS.Comp
import HandS.Conv
import HandS.SortInts
import PySem.Challenge.RW_leftnumbers_k85_whole_products_to_sums
set_option Elab.async false
set_option linter.all false
set_option maxRecDepth 100000
set_option autoImplicit false
namespace PL
open PySem PySem.Spec L2
open PyProof.Rows hiding St
/-- plain values -/
inductive PV where
  | non | bl (b : Bool) | int (i : Int) | str (s : Str)
  | tup (l : List PV) | lst (l : List PV) | frz (l : List PV) | dct
/-- what an evaluation comes to -/
inductive R (α : Type) where
  | ok (a : α) | exc (c : Str) | stuck
def R.bind {α β : Type} (x : R α) (k : α → R β) : R β := match x with
  | .ok a => k a | .exc c => .exc c | .stuck => .stuck
theorem R.bind_ok {α β : Type} (a : α) (k : α → R β) : (R.ok a).bind k = k a := rfl
/-- a slot: nothing yet; a value that may be shared; a list that this def made and nobody else holds -/
inductive Slot where
  | un | val (p : PV) | own (l : List PV) | ex (a : Addr)
abbrev Rho := List Slot
/-- a written tuple -/
def KT (K : PySem.W.Frag) (a : Addr) (xs : List V) : Prop :=
  ∃ (o : Obj) (its : Array Value) (n : Nat), K.lookup a = some o ∧ o.cls = .type "tuple" ∧ o.data = .seq its n ∧ its.size ≤ sizeLine ∧ Vals xs its.toList
mutual
inductive Rep (K : PySem.W.Frag) (H : Hp) (O : Addr → Prop) : V → PV → Prop
  | non : Rep K H O .non .non
  | bl (b : Bool) : Rep K H O (.bl b) (.bl b)
  | int (i : Int) : Rep K H O (.int i) (.int i)
  | str (x : Str) : Rep K H O (.str x) (.str x)
  | lst {a : Addr} {xs : List V} {ps : List PV} : H a = some (.lst xs) → ¬ O a → Reps K H O xs ps → Rep K H O (.ref a) (.lst ps)
  | tup {a : Addr} {xs : List V} {ps : List PV} : (H a = some (.tup xs) ∧ ¬ O a ∨ KT K a xs) → Reps K H O xs ps → Rep K H O (.ref a) (.tup ps)
  | frz {a : Addr} {ns : List Int} : ((∃ o, H a = some (.frz o (.lst (ns.map V.int)))) ∧ ¬ O a ∨ ((∀ H', SqL K H' a (ns.map V.int)))) → Rep K H O (.ref a) (.frz (ns.map PV.int))
  | dct {a : Addr} {kvs : List (L2.Key × V)} : H a = some (.dK kvs) → ¬ O a → Rep K H O (.ref a) .dct
inductive Reps (K : PySem.W.Frag) (H : Hp) (O : Addr → Prop) : List V → List PV → Prop
  | nil : Reps K H O [] []
  | cons {v : V} {vs : List V} {p : PV} {ps : List PV} : Rep K H O v p → Reps K H O vs ps → Reps K H O (v :: vs) (p :: ps)
end
section
variable {K : PySem.W.Frag} {H H' : Hp} {O O' : Addr → Prop}
mutual
theorem Rep.mono (hk : ∀ a o, H a = some o → ¬ O a → H' a = some o ∧ ¬ O' a) : ∀ {v : V} {p : PV}, Rep K H O v p → Rep K H' O' v p
  | _, _, .non => .non
  | _, _, .bl b => .bl b
  | _, _, .int i => .int i
  | _, _, .str x => .str x
  | _, _, .lst h n r => .lst (hk _ _ h n).1 (hk _ _ h n).2 (Reps.mono hk r)
  | _, _, .tup (.inl ⟨h, n⟩) r => .tup (.inl ⟨(hk _ _ h n).1, (hk _ _ h n).2⟩) (Reps.mono hk r)
  | _, _, .tup (.inr h) r => .tup (.inr h) (Reps.mono hk r)
  | _, _, .frz (.inl ⟨⟨o, h⟩, n⟩) => .frz (.inl ⟨⟨o, (hk _ _ h n).1⟩, (hk _ _ h n).2⟩)
  | _, _, .frz (.inr h) => .frz (.inr h)
  | _, _, .dct h n => .dct (hk _ _ h n).1 (hk _ _ h n).2
theorem Reps.mono (hk : ∀ a o, H a = some o → ¬ O a → H' a = some o ∧ ¬ O' a) : ∀ {v : List V} {p : List PV}, Reps K H O v p → Reps K H' O' v p
  | _, _, .nil => .nil
  | _, _, .cons h r => .cons (Rep.mono hk h) (Reps.mono hk r)
end
theorem Rep.same {v : V} {p : PV} (s : Same H H') (r : Rep K H O v p) : Rep K H' O v p := r.mono fun a o h n => ⟨s a o h, n⟩
theorem Reps.same {v : List V} {p : List PV} (s : Same H H') (r : Reps K H O v p) : Reps K H' O v p := r.mono fun a o h n => ⟨s a o h, n⟩
theorem Rep.less {v : V} {p : PV} (s : ∀ a, O' a → O a) (r : Rep K H O v p) : Rep K H O' v p := r.mono fun a o h n => ⟨h, fun z => n (s a z)⟩
theorem Reps.less {v : List V} {p : List PV} (s : ∀ a, O' a → O a) (r : Reps K H O v p) : Reps K H O' v p := r.mono fun a o h n => ⟨h, fun z => n (s a z)⟩
theorem Reps.length : ∀ {vs : List V} {ps : List PV}, Reps K H O vs ps → vs.length = ps.length
  | _, _, .nil => rfl
  | _, _, .cons _ r => by rw [List.length_cons, List.length_cons, Reps.length r]
theorem Reps.get : ∀ {vs : List V} {ps : List PV} {i : Nat} {p : PV}, Reps K H O vs ps → ps[i]? = some p → ∃ v, vs[i]? = some v ∧ Rep K H O v p
  | _, _, 0, _, .cons h _, e => ⟨_, rfl, by simp at e; exact e ▸ h⟩
  | _, _, i + 1, p, .cons _ r, e => by
    obtain ⟨v, h1, h2⟩ := Reps.get (i := i) (p := p) r (by simpa using e)
    exact ⟨v, by simpa using h1, h2⟩
theorem Reps.get' : ∀ {vs : List V} {ps : List PV} {i : Nat} {v : V}, Reps K H O vs ps → vs[i]? = some v → ∃ p, ps[i]? = some p ∧ Rep K H O v p
  | _, _, 0, _, .cons h _, e => ⟨_, rfl, by simp at e; exact e ▸ h⟩
  | _, _, i + 1, v, .cons _ r, e => by
    obtain ⟨p, h1, h2⟩ := Reps.get' (i := i) (v := v) r (by simpa using e)
    exact ⟨p, by simpa using h1, h2⟩
theorem Reps.append : ∀ {vs ws : List V} {ps qs : List PV}, Reps K H O vs ps → Reps K H O ws qs → Reps K H O (vs ++ ws) (ps ++ qs)
  | _, _, _, _, .nil, s => s
  | _, _, _, _, .cons h r, s => .cons h (Reps.append r s)
theorem Reps.take : ∀ {vs : List V} {ps : List PV} (n : Nat), Reps K H O vs ps → Reps K H O (vs.take n) (ps.take n)
  | _, _, 0, _ => .nil
  | _, _, _ + 1, .nil => .nil
  | _, _, n + 1, .cons h r => .cons h (Reps.take n r)
theorem Reps.drop : ∀ {vs : List V} {ps : List PV} (n : Nat), Reps K H O vs ps → Reps K H O (vs.drop n) (ps.drop n)
  | _, _, 0, r => r
  | _, _, _ + 1, .nil => .nil
  | _, _, n + 1, .cons _ r => Reps.drop n r
theorem Reps.set {v : V} {p : PV} (h : Rep K H O v p) : ∀ {vs : List V} {ps : List PV} (n : Nat), Reps K H O vs ps → Reps K H O (vs.set n v) (ps.set n p)
  | _, _, _, .nil => .nil
  | _, _, 0, .cons _ r => .cons h r
  | _, _, n + 1, .cons q r => .cons q (Reps.set h n r)
theorem Reps.reverse {vs : List V} {ps : List PV} (h : Reps K H O vs ps) : Reps K H O vs.reverse ps.reverse := by
  induction vs generalizing ps with
  | nil => cases h; exact .nil
  | cons v vs ih => cases h with
    | cons a r => rw [List.reverse_cons, List.reverse_cons]; exact (ih r).append (.cons a .nil)
theorem Reps.ints : ∀ {ns : List Int} {vs : List V}, Reps K H O vs (ns.map PV.int) → vs = ns.map V.int
  | [], _, .nil => rfl
  | n :: ns, _, .cons h r => by cases h; rw [Reps.ints r]; rfl
theorem Reps.ofInts : ∀ (ns : List Int), Reps K H O (ns.map V.int) (ns.map PV.int)
  | [] => .nil
  | n :: ns => .cons (.int n) (Reps.ofInts ns)
theorem Reps.bls : ∀ {ns : List Bool} {vs : List V}, Reps K H O vs (ns.map PV.bl) → vs = ns.map V.bl
  | [], _, .nil => rfl
  | n :: ns, _, .cons h r => by cases h; rw [Reps.bls r]; rfl
end
/-- the addresses that nobody else may hold: those from outside, those of the slots -/
def OO (O0 : Addr → Prop) (σ : St) (ρ : Rho) : Addr → Prop := fun a => O0 a ∨ ∃ (i : Nat) (ps : List PV), ρ[i]? = some (.own ps) ∧ σ[i]? = some (some (.ref a))
structure StR (K : PySem.W.Frag) (H0 : Hp) (O0 : Addr → Prop) (H : Hp) (σ : St) (ρ : Rho) : Prop where
  len : σ.length = ρ.length
  same : Same H0 H
  all0 : ∀ a, O0 a → H a ≠ none
  own : ∀ (i : Nat) (ps : List PV), ρ[i]? = some (.own ps) → ∃ (a : Addr) (vs : List V), σ[i]? = some (some (.ref a)) ∧ H a = some (.lst vs) ∧ H0 a = none ∧ ¬ O0 a ∧ Reps K H (OO O0 σ ρ) vs ps
  dis : ∀ (i j : Nat) (a : Addr) (ps qs : List PV), ρ[i]? = some (.own ps) → ρ[j]? = some (.own qs) → σ[i]? = some (some (.ref a)) → σ[j]? = some (some (.ref a)) → i = j
  val : ∀ (i : Nat) (p : PV), ρ[i]? = some (.val p) → ∃ (v : V), σ[i]? = some (some v) ∧ Rep K H (OO O0 σ ρ) v p
  exs : ∀ (i : Nat) (a : Addr), ρ[i]? = some (.ex a) → σ[i]? = some (some (.ref a))
theorem exs_set {σ : St} {ρ : Rho} (hl : σ.length = ρ.length) (h : ∀ (i : Nat) (a : Addr), ρ[i]? = some (.ex a) → σ[i]? = some (some (.ref a))) {i : Nat} {v : Option V} {s : Slot} (hs : ∀ a, s = .ex a → v = some (.ref a)) : ∀ (j : Nat) (a : Addr), (ρ.set i s)[j]? = some (.ex a) → (σ.set i v)[j]? = some (some (.ref a)) := fun j a e => by
  by_cases q : i = j
  · subst q
    by_cases hi : i < ρ.length
    · rw [List.getElem?_set_self hi] at e
      rw [List.getElem?_set_self (by rw [hl]; exact hi), hs a (Option.some.inj e)]
    · rw [List.getElem?_eq_none (by rw [List.length_set]; omega)] at e; cases e
  · rw [List.getElem?_set_ne q] at e ⊢
    exact h j a e
theorem exs_setR {σ : St} {ρ : Rho} (h : ∀ (i : Nat) (a : Addr), ρ[i]? = some (.ex a) → σ[i]? = some (some (.ref a))) {i : Nat} {s : Slot} (hs : ∀ a, s ≠ .ex a) : ∀ (j : Nat) (a : Addr), (ρ.set i s)[j]? = some (.ex a) → σ[j]? = some (some (.ref a)) := fun j a e => by
  by_cases q : i = j
  · subst q
    by_cases hi : i < ρ.length
    · rw [List.getElem?_set_self hi] at e
      exact absurd (Option.some.inj e) (hs a)
    · rw [List.getElem?_eq_none (by rw [List.length_set]; omega)] at e; cases e
  · rw [List.getElem?_set_ne q] at e
    exact h j a e
section
variable {K : PySem.W.Frag} {H0 H H' : Hp} {O0 : Addr → Prop} {σ : St} {ρ : Rho}
theorem StR.there (S : StR K H0 O0 H σ ρ) {a : Addr} (h : OO O0 σ ρ a) : H a ≠ none := by
  rcases h with h | ⟨i, ps, h1, h2⟩
  · exact S.all0 a h
  · obtain ⟨b, vs, e1, e2, _⟩ := S.own i ps h1
    rw [h2] at e1; cases e1
    rw [e2]; exact fun z => nomatch z
theorem StR.step (S : StR K H0 O0 H σ ρ) (s : Same H H') : StR K H0 O0 H' σ ρ :=
  ⟨S.len, S.same.trans s, fun a h z => S.all0 a h (s.free z), fun i ps h => let ⟨a, vs, e1, e2, e3, e5, e4⟩ := S.own i ps h; ⟨a, vs, e1, s _ _ e2, e3, e5, e4.same s⟩, S.dis, fun i p h => let ⟨v, e1, e2⟩ := S.val i p h; ⟨v, e1, e2.same s⟩, S.exs⟩
theorem OO.set_val {i : Nat} {v : Option V} {s : Slot} (hs : ∀ ps, s ≠ .own ps) {a : Addr} (h : OO O0 (σ.set i v) (ρ.set i s) a) : OO O0 σ ρ a := by
  rcases h with h | ⟨j, ps, h1, h2⟩
  · exact .inl h
  · by_cases e : i = j
    · subst e
      by_cases hl : i < ρ.length
      · rw [List.getElem?_set_self hl] at h1; exact absurd (Option.some.inj h1) (hs ps)
      · rw [List.getElem?_eq_none (by rw [List.length_set]; omega)] at h1; cases h1
    · rw [List.getElem?_set_ne e] at h1 h2
      exact .inr ⟨j, ps, h1, h2⟩
/-- a slot is set to a shared value (or emptied) -/
theorem StR.set (S : StR K H0 O0 H σ ρ) {i : Nat} {v : Option V} {s : Slot} (hs : ∀ ps, s ≠ .own ps) (hv : ∀ p, s = .val p → ∃ w, v = some w ∧ Rep K H (OO O0 σ ρ) w p) (hx : ∀ a, s = .ex a → v = some (.ref a) := by intro _ z; cases z) : StR K H0 O0 H (σ.set i v) (ρ.set i s) := by
  have less : ∀ a, OO O0 (σ.set i v) (ρ.set i s) a → OO O0 σ ρ a := fun a h => OO.set_val hs h
  refine ⟨by rw [List.length_set, List.length_set, S.len], S.same, S.all0, fun j ps h => ?_, fun j k a ps qs h1 h2 h3 h4 => ?_, fun j p h => ?_, exs_set S.len S.exs hx⟩
  · by_cases e : i = j
    · subst e
      by_cases hl : i < ρ.length
      · rw [List.getElem?_set_self hl] at h; exact absurd (Option.some.inj h) (hs ps)
      · rw [List.getElem?_eq_none (by rw [List.length_set]; omega)] at h; cases h
    · rw [List.getElem?_set_ne e] at h
      obtain ⟨a, vs, e1, e2, e3, e5, e4⟩ := S.own j ps h
      exact ⟨a, vs, by rw [List.getElem?_set_ne e]; exact e1, e2, e3, e5, e4.less less⟩
  · have go : ∀ {j : Nat} {ps : List PV}, (ρ.set i s)[j]? = some (.own ps) → i ≠ j := fun {j ps} h e => by
      subst e
      by_cases hl : i < ρ.length
      · rw [List.getElem?_set_self hl] at h; exact absurd (Option.some.inj h) (hs ps)
      · rw [List.getElem?_eq_none (by rw [List.length_set]; omega)] at h; cases h
    have e1 := go h1
    have e2 := go h2
    rw [List.getElem?_set_ne e1] at h1 h3
    rw [List.getElem?_set_ne e2] at h2 h4
    exact S.dis j k a ps qs h1 h2 h3 h4
  · by_cases e : i = j
    · subst e
      by_cases hl : i < ρ.length
      · rw [List.getElem?_set_self hl] at h
        obtain ⟨w, e1, e2⟩ := hv p (Option.some.inj h)
        exact ⟨w, by rw [List.getElem?_set_self (by rw [S.len]; exact hl), e1], e2.less less⟩
      · rw [List.getElem?_eq_none (by rw [List.length_set]; omega)] at h; cases h
    · rw [List.getElem?_set_ne e] at h
      obtain ⟨w, e1, e2⟩ := S.val j p h
      exact ⟨w, by rw [List.getElem?_set_ne e]; exact e1, e2.less less⟩
/-- a slot is set to a list that is new -/
theorem StR.setOwn (S : StR K H0 O0 H σ ρ) (s : Same H H') {i : Nat} {a : Addr} {vs : List V} {ps : List PV} (hn : H a = none) (ha : H' a = some (.lst vs)) (hr : Reps K H' (fun b => OO O0 σ ρ b ∨ b = a) vs ps) :
    StR K H0 O0 H' (σ.set i (some (.ref a))) (ρ.set i (.own ps)) := by
  have less : ∀ b, OO O0 (σ.set i (some (.ref a))) (ρ.set i (.own ps)) b → OO O0 σ ρ b ∨ b = a := fun b h => by
    rcases h with h | ⟨j, qs, h1, h2⟩
    · exact .inl (.inl h)
    · by_cases e : i = j
      · subst e
        by_cases hl : i < σ.length
        · rw [List.getElem?_set_self hl] at h2; cases h2; exact .inr rfl
        · rw [List.getElem?_eq_none (by rw [List.length_set]; omega)] at h2; cases h2
      · rw [List.getElem?_set_ne e] at h1 h2
        exact .inl (.inr ⟨j, qs, h1, h2⟩)
  have h0 : H0 a = none := S.same.free hn
  have nota : ∀ {b : Addr} {o : HO}, H b = some o → b ≠ a := fun hb z => by rw [z, hn] at hb; cases hb
  have keep : ∀ {v : V} {p : PV}, Rep K H (OO O0 σ ρ) v p → Rep K H' (OO O0 (σ.set i (some (.ref a))) (ρ.set i (.own ps))) v p := fun r => r.mono fun b o hb nb => ⟨s b o hb, fun z => (less b z).elim nb (nota hb)⟩
  have keeps : ∀ {v : List V} {p : List PV}, Reps K H (OO O0 σ ρ) v p → Reps K H' (OO O0 (σ.set i (some (.ref a))) (ρ.set i (.own ps))) v p := fun r => r.mono fun b o hb nb => ⟨s b o hb, fun z => (less b z).elim nb (nota hb)⟩
  refine ⟨by rw [List.length_set, List.length_set, S.len], S.same.trans s, fun a h z => S.all0 a h (s.free z), fun j qs h => ?_, fun j k b qs rs h1 h2 h3 h4 => ?_, fun j p h => ?_, exs_set S.len S.exs fun _ z => nomatch z⟩
  · by_cases e : i = j
    · subst e
      by_cases hl : i < ρ.length
      · rw [List.getElem?_set_self hl] at h; cases h
        exact ⟨a, vs, by rw [List.getElem?_set_self (by rw [S.len]; exact hl)], ha, h0, fun z => S.all0 a z hn, hr.less less⟩
      · rw [List.getElem?_eq_none (by rw [List.length_set]; omega)] at h; cases h
    · rw [List.getElem?_set_ne e] at h
      obtain ⟨b, ws, e1, e2, e3, e5, e4⟩ := S.own j qs h
      exact ⟨b, ws, by rw [List.getElem?_set_ne e]; exact e1, s _ _ e2, e3, e5, keeps e4⟩
  · have other : ∀ {j : Nat} {qs : List PV} {b : Addr}, i ≠ j → (ρ.set i (.own ps))[j]? = some (.own qs) → (σ.set i (some (.ref a)))[j]? = some (some (.ref b)) → b ≠ a := fun {j qs b} e h1 h3 z => by
      rw [List.getElem?_set_ne e] at h1 h3
      obtain ⟨c, ws, e1, e2, _⟩ := S.own j qs h1
      rw [h3] at e1; cases e1
      exact nota e2 z
    have self : ∀ {j : Nat} {b : Addr}, i = j → (σ.set i (some (.ref a)))[j]? = some (some (.ref b)) → b = a := fun {j b} e h3 => by
      subst e
      by_cases hl : i < σ.length
      · rw [List.getElem?_set_self hl] at h3; cases h3; rfl
      · rw [List.getElem?_eq_none (by rw [List.length_set]; omega)] at h3; cases h3
    by_cases e1 : i = j
    · by_cases e2 : i = k
      · exact e1.symm.trans e2
      · exact absurd (self e1 h3) (other e2 h2 h4)
    · by_cases e2 : i = k
      · exact absurd (self e2 h4) (other e1 h1 h3)
      · rw [List.getElem?_set_ne e1] at h1 h3
        rw [List.getElem?_set_ne e2] at h2 h4
        exact S.dis j k b qs rs h1 h2 h3 h4
  · by_cases e : i = j
    · subst e
      by_cases hl : i < ρ.length
      · rw [List.getElem?_set_self hl] at h; cases h
      · rw [List.getElem?_eq_none (by rw [List.length_set]; omega)] at h; cases h
    · rw [List.getElem?_set_ne e] at h
      obtain ⟨w, e1, e2⟩ := S.val j p h
      exact ⟨w, by rw [List.getElem?_set_ne e]; exact e1, keep e2⟩
/-- an owned list is changed -/
theorem StR.write (S : StR K H0 O0 H σ ρ) {i : Nat} {a : Addr} {ps qs : List PV} {ws : List V} (h1 : ρ[i]? = some (.own ps)) (h2 : σ[i]? = some (some (.ref a))) (hr : Reps K H (OO O0 σ ρ) ws qs) :
    StR K H0 O0 (upd H a (.lst ws)) σ (ρ.set i (.own qs)) := by
  have hi : i < ρ.length := (List.getElem?_eq_some_iff.mp h1).1
  have oeq : ∀ b, OO O0 σ (ρ.set i (.own qs)) b ↔ OO O0 σ ρ b := fun b => by
    constructor
    · rintro (h | ⟨j, rs, e1, e2⟩)
      · exact .inl h
      · by_cases e : i = j
        · subst e; exact .inr ⟨i, ps, h1, e2⟩
        · rw [List.getElem?_set_ne e] at e1; exact .inr ⟨j, rs, e1, e2⟩
    · rintro (h | ⟨j, rs, e1, e2⟩)
      · exact .inl h
      · by_cases e : i = j
        · subst e; exact .inr ⟨i, qs, List.getElem?_set_self hi, e2⟩
        · exact .inr ⟨j, rs, by rw [List.getElem?_set_ne e]; exact e1, e2⟩
  have hO : OO O0 σ ρ a := .inr ⟨i, ps, h1, h2⟩
  have hk : ∀ b o, H b = some o → ¬ OO O0 σ ρ b → upd H a (.lst ws) b = some o ∧ ¬ OO O0 σ (ρ.set i (.own qs)) b := fun b o hb nb =>
    ⟨by rw [upd_ne (fun z => nb (by rw [z]; exact hO))]; exact hb, fun z => nb ((oeq b).mp z)⟩
  obtain ⟨a', vs, e1, e2, e3, e5, _⟩ := S.own i ps h1
  rw [h2] at e1; cases e1
  refine ⟨by rw [List.length_set, S.len], fun b o hb => ?_, fun b hb => ?_, fun j rs h => ?_, fun j k b rs ts g1 g2 g3 g4 => ?_, fun j p h => ?_, exs_setR S.exs fun _ z => nomatch z⟩
  · rw [upd_ne (fun z => by rw [z, e3] at hb; cases hb)]; exact S.same b o hb
  · by_cases e : b = a
    · rw [e, upd_same]; exact fun z => nomatch z
    · rw [upd_ne e]; exact S.all0 b hb
  · by_cases e : i = j
    · subst e
      rw [List.getElem?_set_self hi] at h; cases h
      exact ⟨a, ws, h2, upd_same, e3, e5, hr.mono hk⟩
    · rw [List.getElem?_set_ne e] at h
      obtain ⟨b, us, f1, f2, f3, f5, f4⟩ := S.own j rs h
      exact ⟨b, us, f1, by rw [upd_ne (fun z => e (S.dis i j a ps rs h1 h h2 (by rw [← z]; exact f1)))]; exact f2, f3, f5, f4.mono hk⟩
  · have go : ∀ {j : Nat} {rs : List PV}, (ρ.set i (.own qs))[j]? = some (.own rs) → ∃ rs', ρ[j]? = some (.own rs') := fun {j rs} h => by
      by_cases e : i = j
      · subst e; exact ⟨_, h1⟩
      · rw [List.getElem?_set_ne e] at h; exact ⟨_, h⟩
    obtain ⟨_, f1⟩ := go g1
    obtain ⟨_, f2⟩ := go g2
    exact S.dis j k b _ _ f1 f2 g3 g4
  · by_cases e : i = j
    · subst e
      rw [List.getElem?_set_self hi] at h; cases h
    · rw [List.getElem?_set_ne e] at h
      obtain ⟨w, f1, f2⟩ := S.val j p h
      exact ⟨w, f1, f2.mono hk⟩
/-- an owned list is let go: it is shared from now on -/
theorem StR.freeze (S : StR K H0 O0 H σ ρ) {i : Nat} {ps : List PV} (h1 : ρ[i]? = some (.own ps)) : StR K H0 O0 H σ (ρ.set i (.val (.lst ps))) := by
  have hi : i < ρ.length := (List.getElem?_eq_some_iff.mp h1).1
  obtain ⟨a, vs, e1, e2, e3, e5, e4⟩ := S.own i ps h1
  have hs : σ.set i (some (.ref a)) = σ := by
    refine List.ext_getElem? fun j => ?_
    by_cases e : i = j
    · subst e; rw [List.getElem?_set_self (by rw [S.len]; exact hi), e1]
    · rw [List.getElem?_set_ne e]
  have less : ∀ b, OO O0 σ (ρ.set i (.val (.lst ps))) b → OO O0 σ ρ b := fun b h => by
    rw [← hs] at h
    exact OO.set_val (fun _ z => Slot.noConfusion z) h
  have na : ¬ OO O0 σ (ρ.set i (.val (.lst ps))) a := by
    rintro (h | ⟨j, rs, f1, f2⟩)
    · exact e5 h
    · by_cases e : i = j
      · subst e
        rw [List.getElem?_set_self hi] at f1; cases f1
      · rw [List.getElem?_set_ne e] at f1
        exact e (S.dis i j a ps rs h1 f1 e1 f2)
  refine ⟨by rw [List.length_set, S.len], S.same, S.all0, fun j rs h => ?_, fun j k b rs ts g1 g2 g3 g4 => ?_, fun j p h => ?_, exs_setR S.exs fun _ z => nomatch z⟩
  · by_cases e : i = j
    · subst e
      rw [List.getElem?_set_self hi] at h; cases h
    · rw [List.getElem?_set_ne e] at h
      obtain ⟨b, us, f1, f2, f3, f5, f4⟩ := S.own j rs h
      exact ⟨b, us, f1, f2, f3, f5, f4.less less⟩
  · have go : ∀ {j : Nat} {rs : List PV}, (ρ.set i (.val (.lst ps)))[j]? = some (.own rs) → ρ[j]? = some (.own rs) := fun {j rs} h => by
      by_cases e : i = j
      · subst e; rw [List.getElem?_set_self hi] at h; cases h
      · rw [List.getElem?_set_ne e] at h; exact h
    exact S.dis j k b _ _ (go g1) (go g2) g3 g4
  · by_cases e : i = j
    · subst e
      rw [List.getElem?_set_self hi] at h; cases h
      exact ⟨.ref a, e1, .lst e2 na (e4.less less)⟩
    · rw [List.getElem?_set_ne e] at h
      obtain ⟨w, f1, f2⟩ := S.val j p h
      exact ⟨w, f1, f2.less less⟩
end
end PL
set_option Elab.async false
set_option linter.all false
set_option maxRecDepth 100000
set_option autoImplicit false
namespace PL
open PySem PySem.Spec L2
open PyProof.Rows hiding St
/-- how a result stands: s: apart from the owned lists; t: it may be an owned list itself; f: a list that is new; w: apart from the outer addresses alone -/
inductive Md where
  | s | t | f | w
def RepM (K : PySem.W.Frag) (O0 : Addr → Prop) (σ : St) (ρ : Rho) : Md → Hp → Hp → V → PV → Prop
  | .s, _, H', v, p => Rep K H' (OO O0 σ ρ) v p
  | .t, _, H', v, p => Rep K H' (OO O0 σ ρ) v p ∨ ∃ a vs ps, v = .ref a ∧ p = .lst ps ∧ H' a = some (.lst vs) ∧ Reps K H' (OO O0 σ ρ) vs ps
  | .f, H, H', v, p => ∃ a vs ps, v = .ref a ∧ p = .lst ps ∧ H a = none ∧ H' a = some (.lst vs) ∧ Reps K H' (fun b => OO O0 σ ρ b ∨ b = a) vs ps
  | .w, _, H', v, p => Rep K H' O0 v p
section
variable {K : PySem.W.Frag} {H0 H H1 H2 : Hp} {O0 : Addr → Prop} {σ : St} {ρ : Rho} {v : V} {p : PV} {m : Md}
theorem RepM.step (r : RepM K O0 σ ρ m H H1 v p) (s : Same H1 H2) : RepM K O0 σ ρ m H H2 v p := by
  cases m with
  | s => exact Rep.same s r
  | t =>
    rcases r with r | ⟨a, vs, ps, e1, e2, e3, e4⟩
    · exact .inl (r.same s)
    · exact .inr ⟨a, vs, ps, e1, e2, s _ _ e3, e4.same s⟩
  | f => obtain ⟨a, vs, ps, e1, e2, e3, e4, e5⟩ := r; exact ⟨a, vs, ps, e1, e2, e3, s _ _ e4, e5.same s⟩
  | w => exact Rep.same s r
theorem RepM.back (s : Same H H1) (r : RepM K O0 σ ρ m H1 H2 v p) : RepM K O0 σ ρ m H H2 v p := by
  cases m with
  | s => exact r
  | t => exact r
  | f => obtain ⟨a, vs, ps, e1, e2, e3, e4, e5⟩ := r; exact ⟨a, vs, ps, e1, e2, s.free e3, e4, e5⟩
  | w => exact r
theorem RepM.f_s (S : StR K H0 O0 H σ ρ) (r : RepM K O0 σ ρ .f H H1 v p) : RepM K O0 σ ρ .s H H1 v p := by
  obtain ⟨a, vs, ps, rfl, rfl, e3, e4, e5⟩ := r
  exact .lst e4 (fun z => S.there z e3) (e5.less fun _ z => .inl z)
theorem RepM.s_w (r : RepM K O0 σ ρ .s H H1 v p) : RepM K O0 σ ρ .w H H1 v p := Rep.less (fun _ z => .inl z) r
theorem RepM.s_t (r : RepM K O0 σ ρ .s H H1 v p) : RepM K O0 σ ρ .t H H1 v p := .inl r
end
/-- what an expression's end must bring -/
def Got (K : PySem.W.Frag) (mg : Str → Option Value) (W : WX) (O0 : Addr → Prop) (σ : St) (ρ : Rho) (m : Md) (H : Hp) (Q : VK) : R PV → Prop
  | .ok p => ∀ v H', Same H H' → RepM K O0 σ ρ m H H' v p → Q v H'
  | .exc c => ∀ C H', Same H H' → mg c = some (.ref C) → W (.ref C) none σ H'
  | .stuck => False
def GotT (mg : Str → Option Value) (W : WX) (σ : St) (H : Hp) (Q : Bool → Hp → Prop) : R Bool → Prop
  | .ok b => ∀ H', Same H H' → Q b H'
  | .exc c => ∀ C H', Same H H' → mg c = some (.ref C) → W (.ref C) none σ H'
  | .stuck => False
def GotA (K : PySem.W.Frag) (mg : Str → Option Value) (W : WX) (O0 : Addr → Prop) (σ : St) (ρ : Rho) (m : Md) (H : Hp) (Q : List V → Hp → Prop) : R (List PV) → Prop
  | .ok ps => ∀ vs H', Same H H' → Paired (RepM K O0 σ ρ m H H') vs ps → Q vs H'
  | .exc c => ∀ C H', Same H H' → mg c = some (.ref C) → W (.ref C) none σ H'
  | .stuck => False
def tE (K : PySem.W.Frag) (mg : Str → Option Value) (W : WX) (m : Md) (f : Rho → R PV) : TE := fun σ H Q =>
  ∃ H0 O0 ρ, StR K H0 O0 H σ ρ ∧ Got K mg W O0 σ ρ m H Q (f ρ)
def tT (K : PySem.W.Frag) (mg : Str → Option Value) (W : WX) (f : Rho → R Bool) : TT := fun σ H Q =>
  ∃ H0 O0 ρ, StR K H0 O0 H σ ρ ∧ GotT mg W σ H Q (f ρ)
def tA (K : PySem.W.Frag) (mg : Str → Option Value) (W : WX) (m : Md) (f : Rho → R (List PV)) : TA := fun σ H Q =>
  ∃ H0 O0 ρ, StR K H0 O0 H σ ρ ∧ GotA K mg W O0 σ ρ m H Q (f ρ)
abbrev EJ (X : Cx) (W : WX) (m : Md) (e : Expr) (f : Rho → R PV) : Prop := PE X e (tE X.K X.mg W m f)
abbrev TJ (X : Cx) (W : WX) (e : Expr) (f : Rho → R Bool) : Prop := PT X e (tT X.K X.mg W f)
abbrev AJ (X : Cx) (W : WX) (m : Md) (es : List Expr) (f : Rho → R (List PV)) : Prop := PA X es (tA X.K X.mg W m f)
section
variable {X : Cx} {e a b : Expr} {pos : Pos}
theorem pe_imp {t t' : TE} (h : PE X e t) (q : ∀ σ H Q, t' σ H Q → t σ H Q) : PE X e t' := ⟨fun pins s σ H Q I hw => h.run pins s σ H Q I (q σ H Q hw)⟩
theorem pt_imp {t t' : TT} (h : PT X e t) (q : ∀ σ H Q, t' σ H Q → t σ H Q) : PT X e t' := ⟨fun pins s σ H Q I hw => h.run pins s σ H Q I (q σ H Q hw)⟩
theorem pw_imp {t t' : TT} (h : PW X e t) (q : ∀ σ H Q, t' σ H Q → t σ H Q) : PW X e t' := ⟨fun wh pins s σ H Q I hw => h.run wh pins s σ H Q I (q σ H Q hw)⟩
theorem pa_imp {es : List Expr} {t t' : TA} (h : PA X es t) (q : ∀ σ H Q, t' σ H Q → t σ H Q) : PA X es t' := ⟨fun pos pins s σ H Q I hw => h.run pos pins s σ H Q I (q σ H Q hw)⟩
end
section
variable {K : PySem.W.Frag} {mg : Str → Option Value} {W : WX} {H0 H H1 H2 : Hp} {O0 : Addr → Prop} {σ : St} {ρ : Rho} {m m1 m2 : Md}
/-- from a later heap -/
theorem Got.later {x : R PV} {Q : VK} (s : Same H H1) (h : Got K mg W O0 σ ρ m H Q x) : Got K mg W O0 σ ρ m H1 Q x := by
  cases x with
  | ok p => exact fun v H' s' r => h v H' (s.trans s') (r.back s)
  | exc c => exact fun C H' s' e => h C H' (s.trans s') e
  | stuck => exact h
theorem GotT.later {x : R Bool} {Q : Bool → Hp → Prop} (s : Same H H1) (h : GotT mg W σ H Q x) : GotT mg W σ H1 Q x := by
  cases x with
  | ok p => exact fun H' s' => h H' (s.trans s')
  | exc c => exact fun C H' s' e => h C H' (s.trans s') e
  | stuck => exact h
end
def eC (p : PV) : Rho → R PV := fun _ => .ok p
def eV (i : Nat) : Rho → R PV := fun ρ => match ρ[i]? with
  | some (.val p) => .ok p
  | _ => .stuck
def eVo (i : Nat) : Rho → R PV := fun ρ => match ρ[i]? with
  | some (.val p) => .ok p
  | some (.own ps) => .ok (.lst ps)
  | _ => .stuck
section
variable {X : Cx} {W : WX} {e a b c : Expr} {pos : Pos} {m m1 m2 m3 : Md} {f g h : Rho → R PV}
theorem e_const {v : V} {p : PV} (hp : PE X e (tC v)) (hr : ∀ K H O, Rep K H O v p) : EJ X W .s e (eC p) := by
  refine pe_imp hp fun σ H Q ⟨H0, O0, ρ, S, G⟩ => ?_
  exact G v H (Same.refl H) (hr _ _ _)
theorem e_int {i : Int} {j : Nat} : EJ X W .s (.Constant (.int i) j pos) (eC (.int i)) := e_const pe_int fun _ _ _ => .int i
theorem e_bl {k : Bool} {j : Nat} : EJ X W .s (.Constant (.bool k) j pos) (eC (.bl k)) := e_const pe_bl fun _ _ _ => .bl k
theorem e_s_t (h : EJ X W .s e f) : EJ X W .t e f := by
  refine pe_imp h fun σ H Q ⟨H0, O0, ρ, S, G⟩ => ⟨H0, O0, ρ, S, ?_⟩
  revert G
  cases f ρ with
  | ok p => exact fun G v H' s r => G v H' s (RepM.s_t (H := H) r)
  | exc c => exact id
  | stuck => exact id
theorem e_f_s (h : EJ X W .f e f) : EJ X W .s e f := by
  refine pe_imp h fun σ H Q ⟨H0, O0, ρ, S, G⟩ => ⟨H0, O0, ρ, S, ?_⟩
  revert G
  cases f ρ with
  | ok p => exact fun G v H' s r => G v H' s (RepM.f_s S r)
  | exc c => exact id
  | stuck => exact id
theorem e_f_t (h : EJ X W .f e f) : EJ X W .t e f := e_s_t (e_f_s h)
theorem eVar_get {K : PySem.W.Frag} {H0 H : Hp} {O0 : Addr → Prop} {σ : St} {ρ : Rho} (S : StR K H0 O0 H σ ρ) {i : Nat} {p : PV} (h : eV i ρ = .ok p) : ∃ v, σ[i]? = some (some v) ∧ Rep K H (OO O0 σ ρ) v p := by
  unfold eV at h
  split at h
  · rename_i q hq
    cases h
    exact S.val i _ hq
  · cases h
theorem e_var {i : Nat} (hp : PE X e (tVar i)) : EJ X W .s e (eV i) := by
  refine pe_imp hp fun σ H Q ⟨H0, O0, ρ, S, G⟩ => ?_
  revert G
  cases hv : eV i ρ with
  | ok p =>
    intro G
    obtain ⟨v, e1, e2⟩ := eVar_get S hv
    exact ⟨v, e1, G v H (Same.refl H) e2⟩
  | exc c => unfold eV at hv; split at hv <;> cases hv
  | stuck => exact False.elim
theorem eVo_get {K : PySem.W.Frag} {H0 H : Hp} {O0 : Addr → Prop} {σ : St} {ρ : Rho} (S : StR K H0 O0 H σ ρ) {i : Nat} {p : PV} (h : eVo i ρ = .ok p) : ∃ v, σ[i]? = some (some v) ∧ RepM K O0 σ ρ .t H H v p ∧ RepM K O0 σ ρ .w H H v p := by
  unfold eVo at h
  split at h
  · rename_i q hq
    cases h
    obtain ⟨v, e1, e2⟩ := S.val i _ hq
    exact ⟨v, e1, .inl e2, RepM.s_w (H := H) e2⟩
  · rename_i ps hq
    cases h
    obtain ⟨a, vs, e1, e2, e3, e5, e4⟩ := S.own i _ hq
    exact ⟨.ref a, e1, .inr ⟨a, vs, _, rfl, rfl, e2, e4⟩, .lst e2 e5 (e4.less fun _ z => .inl z)⟩
  · cases h
theorem eVo_noexc {i : Nat} {ρ : Rho} {c : Str} (h : eVo i ρ = .exc c) : False := by
  unfold eVo at h
  split at h <;> cases h
theorem e_varT {i : Nat} (hp : PE X e (tVar i)) : EJ X W .t e (eVo i) := by
  refine pe_imp hp fun σ H Q ⟨H0, O0, ρ, S, G⟩ => ?_
  revert G
  cases hv : eVo i ρ with
  | ok p =>
    intro G
    obtain ⟨v, e1, e2, _⟩ := eVo_get S hv
    exact ⟨v, e1, G v H (Same.refl H) e2⟩
  | exc c => exact (eVo_noexc hv).elim
  | stuck => exact False.elim
/-- what an operation's end must bring -/
def GotV (K : PySem.W.Frag) (O0 : Addr → Prop) (σ : St) (ρ : Rho) (m : Md) (H H2 : Hp) (Q : VK) : R PV → Prop
  | .ok p => ∀ v H', Same H2 H' → RepM K O0 σ ρ m H H' v p → Q v H'
  | _ => False
def OpS (K : PySem.W.Frag) (r : R2) (m1 m2 m : Md) (g : PV → PV → R PV) : Prop :=
  ∀ {H0 O0 σ ρ H H2 x y p q} {Q : VK}, StR K H0 O0 H σ ρ → Same H H2 → RepM K O0 σ ρ m1 H H2 x p → RepM K O0 σ ρ m2 H H2 y q → GotV K O0 σ ρ m H H2 Q (g p q) → r x y H2 Q
def CallS (K : PySem.W.Frag) (r : List V → Hp → VK → Prop) (m1 m : Md) (g : List PV → R PV) : Prop :=
  ∀ {H0 O0 σ ρ H H2 xs ps} {Q : VK}, StR K H0 O0 H σ ρ → Same H H2 → Paired (RepM K O0 σ ρ m1 H H2) xs ps → GotV K O0 σ ρ m H H2 Q (g ps) → r xs H2 Q
def e2 (g : PV → PV → R PV) (f1 f2 : Rho → R PV) : Rho → R PV := fun ρ => (f1 ρ).bind fun x => (f2 ρ).bind fun y => g x y
def e1 (g : PV → R PV) (f1 : Rho → R PV) : Rho → R PV := fun ρ => (f1 ρ).bind g
theorem Got.v {K : PySem.W.Frag} {mg : Str → Option Value} {O0 : Addr → Prop} {σ : St} {ρ : Rho} {H H2 : Hp} {Q : VK} {x : R PV} (hx : ∀ c, x ≠ .exc c) (s : Same H H2) (G : Got K mg W O0 σ ρ m H Q x) : GotV K O0 σ ρ m H H2 Q x := by
  cases x with
  | ok p => exact fun v H' s' r => G v H' (s.trans s') r
  | exc c => exact absurd rfl (hx c)
  | stuck => exact G
theorem t_op {r : R2} {g : PV → PV → R PV} (hg : ∀ p q c, g p q ≠ .exc c) (ho : OpS X.K r m1 m2 m g) : ∀ σ H Q, tE X.K X.mg W m (e2 g f h) σ H Q → tOp r (tE X.K X.mg W m1 f) (tE X.K X.mg W m2 h) σ H Q := by
  intro σ H Q ⟨H0, O0, ρ, S, G⟩
  refine ⟨H0, O0, ρ, S, ?_⟩
  revert G
  unfold e2
  cases f ρ with
  | stuck => exact False.elim
  | exc c => exact id
  | ok p =>
    intro G x H1 s1 r1
    refine ⟨H0, O0, ρ, S.step s1, ?_⟩
    revert G
    rw [R.bind_ok]
    cases h ρ with
    | stuck => exact False.elim
    | exc c => exact fun G C H' s' => G C H' (s1.trans s')
    | ok q =>
      intro G y H2 s2 r2
      exact ho S (s1.trans s2) (r1.step s2) (r2.back s1) (Got.v (hg p q) (s1.trans s2) G)
theorem e_op {op : Operator} {r : R2} {g : PV → PV → R PV} (hr : OpR X (binaryOp op) r) (hg : ∀ p q c, g p q ≠ .exc c) (ho : OpS X.K r m1 m2 m g) (ha : EJ X W m1 a f) (hb : EJ X W m2 b h) : EJ X W m (.BinOp a op b pos) (e2 g f h) :=
  pe_imp (pe_op hr ha hb) (t_op hg ho)
theorem e_cmp {op : CmpOp} {r : R2} {g : PV → PV → R PV} (hr : OpR X (compareOp op) r) (hg : ∀ p q c, g p q ≠ .exc c) (ho : OpS X.K r m1 m2 m g) (ha : EJ X W m1 a f) (hb : EJ X W m2 b h) (hm : behindInMarks op b = false) : EJ X W m (.Compare a [op] [b] pos) (e2 g f h) :=
  pe_imp (pe_cmpR hr ha hb hm) (t_op hg ho)
theorem e_ix {r : R2} {g : PV → PV → R PV} (hr : IxR X r) (hg : ∀ p q c, g p q ≠ .exc c) (ho : OpS X.K r m1 m2 m g) (ha : EJ X W m1 a f) (hb : EJ X W m2 b h) (hs : PlainIx b) : EJ X W m (.Subscript a b pos) (e2 g f h) :=
  pe_imp (pe_ix hr ha hb hs) (t_op hg ho)
def asB : PV → R Bool
  | .bl b => .ok b
  | _ => .stuck
def tB1 (f : Rho → R PV) : Rho → R Bool := fun ρ => (f ρ).bind asB
theorem GotB {K : PySem.W.Frag} {mg : Str → Option Value} {O0 : Addr → Prop} {σ : St} {ρ : Rho} {H : Hp} {Q : Bool → Hp → Prop} {x : R PV} (G : GotT mg W σ H Q (x.bind asB)) : Got K mg W O0 σ ρ .s H (fun v H' => ∃ k, v = .bl k ∧ Q k H') x := by
  revert G
  cases x with
  | stuck => exact False.elim
  | exc c => exact id
  | ok p =>
    cases p with
    | bl b => exact fun G v H' s r => by cases r; exact ⟨b, rfl, G H' s⟩
    | _ => exact False.elim
theorem t_cmp {op : CmpOp} {r : R2} {g : PV → PV → R PV} (hr : OpR X (compareOp op) r) (hg : ∀ p q c, g p q ≠ .exc c) (ho : OpS X.K r m1 m2 .s g) (ha : EJ X W m1 a f) (hb : EJ X W m2 b h) (hm : behindInMarks op b = false) : TJ X W (.Compare a [op] [b] pos) (tB1 (e2 g f h)) := by
  refine pt_imp (pt_cmpR hr ha hb hm) fun σ H Q ⟨H0, O0, ρ, S, G⟩ => ?_
  exact t_op hg ho σ H _ ⟨H0, O0, ρ, S, GotB G⟩
/-- an expression of any other kind, worth a truth value -/
theorem t_val (ha : EJ X W .s e f) (he : ∀ whole, isTrue e X.env whole = (do let v ← whole; standAt e.pos; holding [v] (truthy v)) := by intro _; rfl) : TJ X W e (tB1 f) := by
  refine pt_imp (pt_val ha he) fun σ H Q ⟨H0, O0, ρ, S, G⟩ => ⟨H0, O0, ρ, S, GotB G⟩
variable {fT gT hT : Rho → R Bool}
def tNt (f : Rho → R Bool) : Rho → R Bool := fun ρ => (f ρ).bind fun b => .ok (!b)
def tAn (f g : Rho → R Bool) : Rho → R Bool := fun ρ => (f ρ).bind fun b => if b = true then g ρ else .ok false
def tOr' (f g : Rho → R Bool) : Rho → R Bool := fun ρ => (f ρ).bind fun b => if b = true then .ok true else g ρ
theorem t_not (ha : TJ X W a fT) : TJ X W (.UnaryOp .Not a pos) (tNt fT) := by
  refine pt_imp (pt_not ha) fun σ H Q ⟨H0, O0, ρ, S, G⟩ => ⟨H0, O0, ρ, S, ?_⟩
  revert G
  unfold tNt
  cases fT ρ with
  | stuck => exact False.elim
  | exc c => exact id
  | ok b => exact fun G H' s => G H' s
abbrev WJ (X : Cx) (W : WX) (e : Expr) (f : Rho → R Bool) : Prop := PW X e (tT X.K X.mg W f)
theorem t_w (h : WJ X W e fT) : TJ X W e fT := PW.pt h
variable {rest : List Expr}
theorem w_and1 (ha : TJ X W a fT) : WJ X W (.BoolOp .And [a] pos) fT := pw_and1 ha
theorem w_or1 (ha : TJ X W a fT) : WJ X W (.BoolOp .Or [a] pos) fT := pw_or1 ha
theorem w_and (ha : TJ X W a fT) (hb : WJ X W (.BoolOp .And (b :: rest) pos) gT) : WJ X W (.BoolOp .And (a :: b :: rest) pos) (tAn fT gT) := by
  refine pw_imp (pw_and ha hb) fun σ H Q ⟨H0, O0, ρ, S, G⟩ => ⟨H0, O0, ρ, S, ?_⟩
  revert G
  unfold tAn
  cases fT ρ with
  | stuck => exact False.elim
  | exc c => exact id
  | ok k =>
    intro G H1 s1
    cases k with
    | true => rw [if_pos rfl]; exact ⟨H0, O0, ρ, S.step s1, GotT.later s1 G⟩
    | false => rw [if_neg Bool.false_ne_true]; exact G H1 s1
theorem w_or (ha : TJ X W a fT) (hb : WJ X W (.BoolOp .Or (b :: rest) pos) gT) : WJ X W (.BoolOp .Or (a :: b :: rest) pos) (tOr' fT gT) := by
  refine pw_imp (pw_or ha hb) fun σ H Q ⟨H0, O0, ρ, S, G⟩ => ⟨H0, O0, ρ, S, ?_⟩
  revert G
  unfold tOr'
  cases fT ρ with
  | stuck => exact False.elim
  | exc c => exact id
  | ok k =>
    intro G H1 s1
    cases k with
    | false => rw [if_neg Bool.false_ne_true]; exact ⟨H0, O0, ρ, S.step s1, GotT.later s1 G⟩
    | true => rw [if_pos rfl]; exact G H1 s1
/-- and, or, not as values -/
def eAn (f g : Rho → R PV) : Rho → R PV := fun ρ => (f ρ).bind fun p => (asB p).bind fun b => if b = true then g ρ else .ok (.bl false)
def eOr (f g : Rho → R PV) : Rho → R PV := fun ρ => (f ρ).bind fun p => (asB p).bind fun b => if b = true then .ok (.bl true) else g ρ
def notP : PV → R PV
  | .bl b => .ok (.bl (!b))
  | _ => .stuck
theorem e_one {op : BoolOp} (ha : EJ X W m a f) : EJ X W m (.BoolOp op [a] pos) f := pe_one ha
theorem e_and (ha : EJ X W .s a f) (hb : EJ X W .s (.BoolOp .And (b :: rest) pos) g) : EJ X W .s (.BoolOp .And (a :: b :: rest) pos) (eAn f g) := by
  refine pe_imp (pe_and ha hb) fun σ H Q ⟨H0, O0, ρ, S, G⟩ => ⟨H0, O0, ρ, S, ?_⟩
  revert G
  unfold eAn
  cases f ρ with
  | stuck => exact False.elim
  | exc c => exact id
  | ok p =>
    cases p with
    | bl k =>
      intro G v H1 s1 r1
      cases r1
      refine ⟨k, rfl, ?_⟩
      cases k with
      | true => rw [if_pos rfl]; exact ⟨H0, O0, ρ, S.step s1, Got.later s1 G⟩
      | false => rw [if_neg Bool.false_ne_true]; exact G _ H1 s1 (.bl false)
    | _ => exact False.elim
theorem e_or (ha : EJ X W .s a f) (hb : EJ X W .s (.BoolOp .Or (b :: rest) pos) g) : EJ X W .s (.BoolOp .Or (a :: b :: rest) pos) (eOr f g) := by
  refine pe_imp (pe_or ha hb) fun σ H Q ⟨H0, O0, ρ, S, G⟩ => ⟨H0, O0, ρ, S, ?_⟩
  revert G
  unfold eOr
  cases f ρ with
  | stuck => exact False.elim
  | exc c => exact id
  | ok p =>
    cases p with
    | bl k =>
      intro G v H1 s1 r1
      cases r1
      refine ⟨k, rfl, ?_⟩
      cases k with
      | false => rw [if_neg Bool.false_ne_true]; exact ⟨H0, O0, ρ, S.step s1, Got.later s1 G⟩
      | true => rw [if_pos rfl]; exact G _ H1 s1 (.bl true)
    | _ => exact False.elim
theorem e_not (ha : EJ X W .s a f) : EJ X W .s (.UnaryOp .Not a pos) (e1 notP f) := by
  refine pe_imp (pe_not ha) fun σ H Q ⟨H0, O0, ρ, S, G⟩ => ⟨H0, O0, ρ, S, ?_⟩
  revert G
  unfold e1
  cases f ρ with
  | stuck => exact False.elim
  | exc c => exact id
  | ok p =>
    cases p with
    | bl k => exact fun G v H1 s1 r1 => by cases r1; exact ⟨k, rfl, G _ H1 s1 (.bl _)⟩
    | _ => exact False.elim
def eIf (t : Rho → R Bool) (f g : Rho → R PV) : Rho → R PV := fun ρ => (t ρ).bind fun b => if b = true then f ρ else g ρ
def aNil : Rho → R (List PV) := fun _ => .ok []
def aCons (f : Rho → R PV) (g : Rho → R (List PV)) : Rho → R (List PV) := fun ρ => (f ρ).bind fun p => (g ρ).bind fun ps => .ok (p :: ps)
variable {es : List Expr} {fA : Rho → R (List PV)}
theorem a_nil : AJ X W m [] aNil := by
  refine pa_imp pa_nil fun σ H Q ⟨H0, O0, ρ, S, G⟩ => ?_
  exact G [] H (Same.refl H) .nil
theorem a_cons (ha : EJ X W m e f) (hr : AJ X W m es fA) (hs : starEach (e :: es) X.env = (false, eval e X.env) :: starEach es X.env := by rfl) : AJ X W m (e :: es) (aCons f fA) := by
  refine pa_imp (pa_cons ha hr hs) fun σ H Q ⟨H0, O0, ρ, S, G⟩ => ⟨H0, O0, ρ, S, ?_⟩
  revert G
  unfold aCons
  cases f ρ with
  | stuck => exact False.elim
  | exc c => exact id
  | ok p =>
    intro G v H1 s1 r1
    refine ⟨H0, O0, ρ, S.step s1, ?_⟩
    revert G
    rw [R.bind_ok]
    cases fA ρ with
    | stuck => exact False.elim
    | exc c => exact fun G C H' s' => G C H' (s1.trans s')
    | ok ps =>
      intro G vs H2 s2 r2
      refine G (v :: vs) H2 (s1.trans s2) (.cons (r1.step s2) ?_)
      exact Paired.mapP r2 fun _ _ z => z.back s1
theorem reps_of {K : PySem.W.Frag} {O0 : Addr → Prop} {σ : St} {ρ : Rho} {H H' : Hp} : ∀ {vs : List V} {ps : List PV}, Paired (RepM K O0 σ ρ .s H H') vs ps → Reps K H' (OO O0 σ ρ) vs ps
  | _, _, .nil => .nil
  | _, _, .cons h r => .cons h (reps_of r)
theorem same_new {H : Hp} {p : Addr} {o : HO} (h : H p = none) : Same H (upd H p o) := fun b x z => by
  rw [upd_ne (ne_of_none z h)]; exact z
def tupP (ps : List PV) : R PV := if ps.length ≤ sizeLine then .ok (.tup ps) else .stuck
def lstP (ps : List PV) : R PV := if ps.length ≤ sizeLine then .ok (.lst ps) else .stuck
def eD (g : List PV → R PV) (f : Rho → R (List PV)) : Rho → R PV := fun ρ => (f ρ).bind g
theorem new_tup {K : PySem.W.Frag} {H0 H H1 : Hp} {O0 : Addr → Prop} {σ : St} {ρ : Rho} (S : StR K H0 O0 H1 σ ρ) {vs : List V} {ps : List PV} (r : Reps K H1 (OO O0 σ ρ) vs ps) {p : Addr} (hp : H1 p = none) : Rep K (upd H1 p (.tup vs)) (OO O0 σ ρ) (.ref p) (.tup ps) :=
  .tup (.inl ⟨upd_same, fun z => S.there z hp⟩) (r.same (same_new hp))
theorem new_lst {K : PySem.W.Frag} {H0 H H1 : Hp} {O0 : Addr → Prop} {σ : St} {ρ : Rho} (s : Same H H1) {vs : List V} {ps : List PV} (r : Reps K H1 (OO O0 σ ρ) vs ps) {p : Addr} (hp : H1 p = none) : RepM K O0 σ ρ .f H (upd H1 p (.lst vs)) (.ref p) (.lst ps) :=
  ⟨p, vs, ps, rfl, rfl, s.free hp, upd_same, r.mono fun b o hb nb => ⟨same_new hp b o hb, fun z => z.elim nb fun z => by rw [z, hp] at hb; cases hb⟩⟩
theorem e_tup {k : Nat} (h : AJ X W .s es fA) : EJ X W .s (.Tuple es k pos) (eD tupP fA) := by
  refine pe_imp (pe_tup h) fun σ H Q ⟨H0, O0, ρ, S, G⟩ => ⟨H0, O0, ρ, S, ?_⟩
  revert G
  unfold eD
  cases fA ρ with
  | stuck => exact False.elim
  | exc c => exact id
  | ok ps =>
    intro G vs H1 s1 r1
    have rr := reps_of r1
    revert G
    rw [R.bind_ok]
    unfold tupP
    split
    · rename_i hz
      exact fun G => ⟨by rw [rr.length]; exact hz, fun p hp => G _ _ (s1.trans (same_new hp)) (new_tup (H := H) (S.step s1) rr hp)⟩
    · exact False.elim
theorem e_lst (h : AJ X W .s es fA) : EJ X W .f (.List es pos) (eD lstP fA) := by
  refine pe_imp (pe_lst h) fun σ H Q ⟨H0, O0, ρ, S, G⟩ => ⟨H0, O0, ρ, S, ?_⟩
  revert G
  unfold eD
  cases fA ρ with
  | stuck => exact False.elim
  | exc c => exact id
  | ok ps =>
    intro G vs H1 s1 r1
    have rr := reps_of r1
    revert G
    rw [R.bind_ok]
    unfold lstP
    split
    · rename_i hz
      exact fun G => ⟨by rw [rr.length]; exact hz, fun p hp => G _ _ (s1.trans (same_new hp)) (new_lst (H0 := H0) s1 rr hp)⟩
    · exact False.elim
theorem e_callB {x : Str} {p : Pos} {id : String} {r : List V → Hp → VK → Prop} {g' : List PV → R PV} (hc : CallR X (.builtin id) r) (hgn : ∀ ps c, g' ps ≠ .exc c) (ho : CallS X.K r m1 m g') (hg : Gl X x) (hm : X.mg x = none) (hv : bootBuiltins x = some (.builtin id)) (ha : AJ X W m1 (e :: es) fA) (hn : x ≠ "__name__" := by decide) (hdb : (x == ("__debug__" : Str)) = false := by decide)
    (he : starEach (e :: es) X.env = (false, eval e X.env) :: starEach es X.env := by rfl) (hpl : (backTo pos (starEach es X.env)).any (·.1) = false := by rfl) : EJ X W m (.Call (.Name x p) (e :: es) [] pos) (eD g' fA) := by
  refine pe_imp (pe_callB hc hg hm hv ha hn hdb he hpl) fun σ H Q ⟨H0, O0, ρ, S, G⟩ => ⟨H0, O0, ρ, S, ?_⟩
  revert G
  unfold eD
  cases fA ρ with
  | stuck => exact False.elim
  | exc c => exact fun G => G
  | ok ps => exact fun G vs H1 s1 r1 => ho S s1 r1 (Got.v (hgn ps) s1 G)
theorem e_callTy {x : Str} {p : Pos} {T : String} {r : List V → Hp → VK → Prop} {g' : List PV → R PV} (hc : CallR X (.type T) r) (hgn : ∀ ps c, g' ps ≠ .exc c) (ho : CallS X.K r m1 m g') (hg : Gl X x) (hm : X.mg x = none) (hv : bootBuiltins x = some (.type T)) (ha : AJ X W m1 (e :: es) fA) (hn : x ≠ "__name__" := by decide) (hdb : (x == ("__debug__" : Str)) = false := by decide)
    (he : starEach (e :: es) X.env = (false, eval e X.env) :: starEach es X.env := by rfl) (hpl : (backTo pos (starEach es X.env)).any (·.1) = false := by rfl) : EJ X W m (.Call (.Name x p) (e :: es) [] pos) (eD g' fA) := by
  refine pe_imp (pe_callTy hc hg hm hv ha hn hdb he hpl) fun σ H Q ⟨H0, O0, ρ, S, G⟩ => ⟨H0, O0, ρ, S, ?_⟩
  revert G
  unfold eD
  cases fA ρ with
  | stuck => exact False.elim
  | exc c => exact fun G => G
  | ok ps => exact fun G vs H1 s1 r1 => ho S s1 r1 (Got.v (hgn ps) s1 G)
def RepR (K : PySem.W.Frag) (O : Addr → Prop) : Bool → Hp → Hp → V → PV → Prop
  | false, _, H', v, p => Rep K H' O v p
  | true, H, H', v, p => ∃ a vs ps, v = .ref a ∧ p = .lst ps ∧ H a = none ∧ H' a = some (.lst vs) ∧ Reps K H' (fun b => O b ∨ b = a) vs ps
/-- the def's promise: n arguments; the function of their values; whether what it hands back is a new list -/
def spF (K : PySem.W.Frag) (mg : Str → Option Value) (n : Nat) (nw : Bool) (F : List PV → R PV) : Sp := fun vs H Q E =>
  ∃ ps O, (∀ a, O a → H a ≠ none) ∧ Reps K H O vs ps ∧ vs.length = n ∧ (match F ps with
    | .ok p => ∀ v H', Same H H' → RepR K O nw H H' v p → Q v H'
    | .exc c => ∀ C H', Same H H' → mg c = some (.ref C) → E (.ref C) none H'
    | .stuck => False)
def mdR : Bool → Md | false => .s | true => .f
theorem e_call {x : Str} {p : Pos} {k : Nat} {fa : Addr} {fd : FuncData} {pn : List Str} {n : Nat} {nw : Bool} {F : List PV → R PV} {dvs : List V} {dps : List PV} {ds : List Value} (Fo : FnOk X.prog X.w X.K X.mg X.base (L2N.CX X.prog X.w) k fa fd pn (spF X.K X.mg n nw F)) (hr : Room k X.A) (hg : Gl X x) (hm : X.mg x = some (.ref fa))
    (hk : PySem.W.keepIn X.K (.ref fa) = true) (hb : L2.Binds X.K fd pn ds) (hd : Vals dvs ds) (hdp : ∀ H O, Reps X.K H O dvs dps) (tk : L2N.Takes X W) (ha : AJ X W .s (e :: es) fA) (hlen : n = es.length + 1 + dvs.length := by rfl) (hal : ∀ ρ ps, fA ρ = .ok ps → ps.length = es.length + 1) (hdb : (x == ("__debug__" : Str)) = false := by decide)
    (he : starEach (e :: es) X.env = (false, eval e X.env) :: starEach es X.env := by rfl) (hpl : (backTo pos (starEach es X.env)).any (·.1) = false := by rfl) : EJ X W (mdR nw) (.Call (.Name x p) (e :: es) [] pos) (eD (fun ps => F (ps ++ dps)) fA) := by
  refine pe_imp (pe_callSD (E := fun σ cls d H => W cls d σ H) Fo hr hg hm hk hb hd (fun σ => L2N.passAt tk σ) ha hdb he hpl) fun σ H Q ⟨H0, O0, ρ, S, G⟩ => ⟨H0, O0, ρ, S, ?_⟩
  revert G
  unfold eD
  cases hA : fA ρ with
  | stuck => exact False.elim
  | exc c => exact id
  | ok ps =>
    intro G vs H1 s1 r1
    have rr := reps_of r1
    refine ⟨ps ++ dps, OO O0 σ ρ, fun a z => (S.step s1).there z, rr.append (hdp _ _), ?_, ?_⟩
    · rw [List.length_append, rr.length, hal ρ ps hA, hlen]
    · revert G
      rw [R.bind_ok]
      cases F (ps ++ dps) with
      | stuck => exact id
      | exc c => exact fun G C H' s' e => G C H' (s1.trans s') e
      | ok p =>
        intro G v H' s' r'
        refine G v H' (s1.trans s') ?_
        cases nw with
        | false => exact r'
        | true =>
          obtain ⟨a, vs', ps', q1, q2, q3, q4, q5⟩ := r'
          exact ⟨a, vs', ps', q1, q2, s1.free q3, q4, q5⟩
end
end PL
set_option Elab.async false
set_option linter.all false
set_option maxRecDepth 100000
set_option autoImplicit false
namespace PL
open PySem PySem.Spec L2
open PyProof.Rows hiding St
section
variable {K : PySem.W.Frag} {H0 H H1 H2 : Hp} {O0 : Addr → Prop} {σ : St} {ρ : Rho} {x : V} {p : PV}
theorem rt_int {i : Int} (r : RepM K O0 σ ρ .t H H2 x (.int i)) : x = .int i := by
  rcases r with r | ⟨_, _, _, _, e, _⟩
  · cases r; rfl
  · cases e
theorem rt_bl {i : Bool} (r : RepM K O0 σ ρ .t H H2 x (.bl i)) : x = .bl i := by
  rcases r with r | ⟨_, _, _, _, e, _⟩
  · cases r; rfl
  · cases e
theorem rt_str {i : Str} (r : RepM K O0 σ ρ .t H H2 x (.str i)) : x = .str i := by
  rcases r with r | ⟨_, _, _, _, e, _⟩
  · cases r; rfl
  · cases e
theorem rt_lst {l : List PV} (r : RepM K O0 σ ρ .t H H2 x (.lst l)) : ∃ a vs, x = .ref a ∧ H2 a = some (.lst vs) ∧ Reps K H2 (OO O0 σ ρ) vs l := by
  rcases r with r | ⟨a, vs, ps, e1, e2, e3, e4⟩
  · cases r with
    | lst h _ r => exact ⟨_, _, rfl, h, r⟩
  · cases e2; exact ⟨a, vs, e1, e3, e4⟩
theorem sqT_of {O : Addr → Prop} {a : Addr} {xs : List V} (h : H a = some (.tup xs) ∧ ¬ O a ∨ KT K a xs) : SqT K H a xs := by
  rcases h with ⟨h, _⟩ | h
  · exact .inl (.inl h)
  · exact .inr h
theorem rt_tup {l : List PV} (r : RepM K O0 σ ρ .t H H2 x (.tup l)) : ∃ a vs, x = .ref a ∧ (H2 a = some (.tup vs) ∧ ¬ OO O0 σ ρ a ∨ KT K a vs) ∧ Reps K H2 (OO O0 σ ρ) vs l := by
  rcases r with r | ⟨a, vs, ps, e1, e2, e3, e4⟩
  · cases r with
    | tup h r => exact ⟨_, _, rfl, h, r⟩
  · cases e2
theorem rt_frz {l : List PV} (r : RepM K O0 σ ρ .t H H2 x (.frz l)) : ∃ (a : Addr) (ns : List Int), x = .ref a ∧ l = ns.map PV.int ∧ SqL K H2 a (ns.map V.int) := by
  rcases r with r | ⟨a, vs, ps, e1, e2, e3, e4⟩
  · generalize hl : PV.frz l = q at r
    cases r with
    | frz h =>
      cases hl
      refine ⟨_, _, rfl, rfl, ?_⟩
      rcases h with ⟨⟨o, h⟩, _⟩ | h
      · exact .inl (.inr ⟨o, h⟩)
      · exact h _
    | _ => cases hl
  · cases e2
end
def addP : PV → PV → R PV
  | .int a, .int b => .ok (.int (a + b))
  | .str a, .str b => if a.length + b.length ≤ sizeLine then .ok (.str (a ++ b)) else .stuck
  | .tup a, .tup b => if a.length + b.length ≤ sizeLine then .ok (.tup (a ++ b)) else .stuck
  | .lst a, .lst b => if a.length + b.length ≤ sizeLine then .ok (.lst (a ++ b)) else .stuck
  | _, _ => .stuck
theorem addP_exc (p q : PV) (c : Str) : addP p q ≠ .exc c := by
  unfold addP; split <;> (try split) <;> exact fun z => nomatch z
def rAddP (K : PySem.W.Frag) : R2 := fun x y H Q => rI0 (fun i j => .int (i + j)) x y H Q ∨ (∃ i j, x = .str i ∧ y = .str j ∧ i.length + j.length ≤ sizeLine ∧ Q (.str (i ++ j)) H) ∨ rCatA K x y H Q ∨ rCat x y H Q
theorem op_addP {X : Cx} : OpR X (binaryOp .Add) (rAddP X.K) := op_add.or (op_add_str.or (op_catA.or op_cat))
theorem cat_s {K : PySem.W.Frag} {H0 H H2 : Hp} {O0 : Addr → Prop} {σ : St} {ρ : Rho} {x y : V} {a b : List PV} {Q : VK} (S : StR K H0 O0 H σ ρ) (s : Same H H2) (rx : RepM K O0 σ ρ .t H H2 x (.lst a)) (ry : RepM K O0 σ ρ .t H H2 y (.lst b))
    (hz : a.length + b.length ≤ sizeLine) (G : ∀ v H', Same H2 H' → RepM K O0 σ ρ .f H H' v (.lst (a ++ b)) → Q v H') : rCat x y H2 Q := by
  obtain ⟨c, vs, rfl, h1, r1⟩ := rt_lst rx
  obtain ⟨d, ws, rfl, h2, r2⟩ := rt_lst ry
  exact ⟨c, d, vs, ws, rfl, rfl, h1, h2, by rw [r1.length, r2.length]; exact hz, fun l hl => G _ _ (same_new hl) (new_lst (H0 := H0) s (r1.append r2) hl)⟩
theorem s_addP (K : PySem.W.Frag) : OpS K (rAddP K) .t .t .s addP := by
  intro H0 O0 σ ρ H H2 x y p q Q S s rx ry G
  unfold addP at G
  split at G
  · rw [rt_int rx, rt_int ry]; exact .inl ⟨_, _, rfl, rfl, G _ _ (Same.refl _) (.int _)⟩
  · split at G
    · rename_i hz
      rw [rt_str rx, rt_str ry]; exact .inr (.inl ⟨_, _, rfl, rfl, hz, G _ _ (Same.refl _) (.str _)⟩)
    · exact G.elim
  · split at G
    · rename_i hz
      obtain ⟨c, vs, rfl, h1, r1⟩ := rt_tup rx
      obtain ⟨d, ws, rfl, h2, r2⟩ := rt_tup ry
      refine .inr (.inr (.inl ⟨c, d, vs, ws, rfl, rfl, sqT_of h1, sqT_of h2, by rw [r1.length, r2.length]; exact hz, fun e => ?_, fun _ e => ?_, fun _ _ l hl => ?_⟩))
      · subst e
        cases r1
        exact G _ _ (Same.refl _) (.tup h2 r2)
      · subst e
        cases r2
        rw [List.append_nil] at G
        exact G _ _ (Same.refl _) (.tup h1 r1)
      · exact G _ _ (same_new hl) (new_tup (H := H) (S.step s) (r1.append r2) hl)
    · exact G.elim
  · split at G
    · rename_i hz
      exact .inr (.inr (.inr (cat_s S s rx ry hz fun v H' s' r' => G v H' s' (RepM.f_s S r'))))
    · exact G.elim
  · exact G.elim
/-- an operation of two ints -/
def intP (c : Int → Int → Bool) (g : Int → Int → PV) : PV → PV → R PV
  | .int a, .int b => if c a b = true then .ok (g a b) else .stuck
  | _, _ => .stuck
theorem intP_exc {c : Int → Int → Bool} {g : Int → Int → PV} (p q : PV) (k : Str) : intP c g p q ≠ .exc k := by
  unfold intP; split <;> (try split) <;> exact fun z => nomatch z
theorem s_int {K : PySem.W.Frag} {C : Int → Int → Prop} {c : Int → Int → Bool} {gv : Int → Int → V} {g : Int → Int → PV} (hc : ∀ a b, c a b = true → C a b) (hr : ∀ H O a b, Rep K H O (gv a b) (g a b)) : OpS K (rI C gv) .t .t .s (intP c g) := by
  intro H0 O0 σ ρ H H2 x y p q Q S s rx ry G
  unfold intP at G
  split at G
  · split at G
    · rename_i hz
      rw [rt_int rx, rt_int ry]; exact ⟨_, _, rfl, rfl, hc _ _ hz, G _ _ (Same.refl _) (hr _ _ _ _)⟩
    · exact G.elim
  · exact G.elim
theorem s_int0 {K : PySem.W.Frag} {gv : Int → Int → V} {g : Int → Int → PV} (hr : ∀ H O a b, Rep K H O (gv a b) (g a b)) : OpS K (rI0 gv) .t .t .s (intP (fun _ _ => true) g) := by
  intro H0 O0 σ ρ H H2 x y p q Q S s rx ry G
  unfold intP at G
  split at G
  · rw [if_pos rfl] at G
    rw [rt_int rx, rt_int ry]; exact ⟨_, _, rfl, rfl, G _ _ (Same.refl _) (hr _ _ _ _)⟩
  · exact G.elim
abbrev subP := intP (fun _ _ => true) fun a b => .int (a - b)
abbrev okMul (a b : Int) : Bool := decide (a.natAbs.log2 + b.natAbs.log2 < 100000000)
/-- factors of together less than a hundred million bits -/
def CMulV (i j : Int) : Prop := i.natAbs.log2 + j.natAbs.log2 < 100000000
theorem CMulV.okM {i j : Int} (h : CMulV i j) : IntMulOk i j := by
  have b : ∀ y : Int, Builtin.Int.intBits y ≤ y.natAbs.log2 + 1 := fun y => by unfold Builtin.Int.intBits; split <;> omega
  have h1 := b i
  have h2 := b j
  unfold CMulV at h
  exact CMulX.ok (show CMulX i j by unfold CMulX; omega)
theorem op_mulV {X : Cx} : OpR X (binaryOp .Mult) (rI CMulV fun i j => .int (i * j)) := opI fun _ _ _ _ _ _ _ hc q => mul_int q hc.okM
abbrev mulP := intP okMul fun a b => .int (a * b)
abbrev okDiv (_ b : Int) : Bool := decide (b ≠ 0) && decide (b.natAbs.log2 < 9000)
abbrev fdivP := intP okDiv fun a b => .int (a.fdiv b)
abbrev modP := intP (fun _ b => decide (b ≠ 0)) fun a b => .int (a.fmod b)
abbrev okPow (a b : Int) : Bool := decide (0 ≤ b) && decide (b ≤ 1000000) && decide (a.natAbs < 2 ^ 64)
abbrev powP := intP okPow fun a b => .int (a ^ b.toNat)
abbrev ltP := intP (fun _ _ => true) fun a b => .bl (decide (a < b))
abbrev leP := intP (fun _ _ => true) fun a b => .bl (decide (a ≤ b))
abbrev gtP := intP (fun _ _ => true) fun a b => .bl (decide (b < a))
abbrev geP := intP (fun _ _ => true) fun a b => .bl (decide (b ≤ a))
def CDivA (i j : Int) : Prop := j ≠ 0 ∧ j.natAbs.log2 < 9000
theorem op_fdivA {X : Cx} : OpR X (binaryOp .FloorDiv) (rI CDivA fun i j => .int (i.fdiv j)) := opI fun i j _ _ _ _ _ hc q => floordiv_int hc.1 q (.inl (PyProof.noPylong_of_log2 hc.2))
theorem iop_mulW {X : Cx} : OpR X (inplaceOp .Mult) (rI CMulV fun i j => .int (i * j)) := opI fun _ _ _ _ _ _ _ hc q => imul_int q hc.okM
theorem okDiv_C (a b : Int) (h : okDiv a b = true) : CDivA a b := by
  rw [Bool.and_eq_true, decide_eq_true_eq, decide_eq_true_eq] at h; exact h
theorem okPow_C (a b : Int) (h : okPow a b = true) : CPow a b := by
  rw [Bool.and_eq_true, Bool.and_eq_true, decide_eq_true_eq, decide_eq_true_eq, decide_eq_true_eq] at h; exact ⟨h.1.1, h.1.2, h.2⟩
section
variable {X : Cx} {W : WX} {e a b c : Expr} {pos : Pos} {m : Md} {f g h : Rho → R PV}
theorem e_add (ha : EJ X W .t a f) (hb : EJ X W .t b g) : EJ X W .s (.BinOp a .Add b pos) (e2 addP f g) := e_op op_addP addP_exc (s_addP _) ha hb
theorem e_sub (ha : EJ X W .t a f) (hb : EJ X W .t b g) : EJ X W .s (.BinOp a .Sub b pos) (e2 subP f g) := e_op op_sub intP_exc (s_int0 fun _ _ _ _ => .int _) ha hb
theorem e_mul (ha : EJ X W .t a f) (hb : EJ X W .t b g) : EJ X W .s (.BinOp a .Mult b pos) (e2 mulP f g) := e_op op_mulV intP_exc (s_int (fun _ _ h => of_decide_eq_true h) fun _ _ _ _ => .int _) ha hb
theorem e_fdiv (ha : EJ X W .t a f) (hb : EJ X W .t b g) : EJ X W .s (.BinOp a .FloorDiv b pos) (e2 fdivP f g) := e_op op_fdivA intP_exc (s_int okDiv_C fun _ _ _ _ => .int _) ha hb
theorem e_mod (ha : EJ X W .t a f) (hb : EJ X W .t b g) : EJ X W .s (.BinOp a .Mod b pos) (e2 modP f g) := e_op op_modN intP_exc (s_int (fun _ _ h => of_decide_eq_true h) fun _ _ _ _ => .int _) ha hb
theorem e_pow (ha : EJ X W .t a f) (hb : EJ X W .t b g) : EJ X W .s (.BinOp a .Pow b pos) (e2 powP f g) := e_op op_pow intP_exc (s_int okPow_C fun _ _ _ _ => .int _) ha hb
theorem e_gt (ha : EJ X W .t a f) (hb : EJ X W .t b g) : EJ X W .s (.Compare a [.Gt] [b] pos) (e2 gtP f g) := e_cmp op_gt intP_exc (s_int0 fun _ _ _ _ => .bl _) ha hb (nomark _)
theorem t_lt (ha : EJ X W .t a f) (hb : EJ X W .t b g) : TJ X W (.Compare a [.Lt] [b] pos) (tB1 (e2 ltP f g)) := t_cmp op_lt intP_exc (s_int0 fun _ _ _ _ => .bl _) ha hb (nomark _)
theorem t_le (ha : EJ X W .t a f) (hb : EJ X W .t b g) : TJ X W (.Compare a [.LtE] [b] pos) (tB1 (e2 leP f g)) := t_cmp op_le intP_exc (s_int0 fun _ _ _ _ => .bl _) ha hb (nomark _)
theorem t_gt (ha : EJ X W .t a f) (hb : EJ X W .t b g) : TJ X W (.Compare a [.Gt] [b] pos) (tB1 (e2 gtP f g)) := t_cmp op_gt intP_exc (s_int0 fun _ _ _ _ => .bl _) ha hb (nomark _)
def negP : PV → R PV
  | .int a => .ok (.int (-a))
  | _ => .stuck
end
mutual
def toD : PV → PyData
  | .non => .none
  | .bl b => .bool b
  | .int i => .int i
  | .str s => .str s
  | .tup l => .tuple (toDs l)
  | .lst l => .list (toDs l)
  | .frz l => .list (toDs l)
  | .dct => .dict []
def toDs : List PV → List PyData
  | [] => []
  | p :: ps => toD p :: toDs ps
end
mutual
def eqV' : PV → PV → Bool
  | .non, .non => true
  | .bl a, .bl b => a == b
  | .bl a, .int j => (if a then 1 else 0) == j
  | .int i, .bl b => i == (if b then 1 else 0)
  | .int i, .int j => i == j
  | .str x, .str y => x == y
  | .lst xs, .lst ys => eqVs xs ys
  | .lst xs, .frz ys => eqVs xs ys
  | .frz xs, .lst ys => eqVs xs ys
  | .frz xs, .frz ys => eqVs xs ys
  | .tup xs, .tup ys => eqVs xs ys
  | _, _ => false
def eqVs : List PV → List PV → Bool
  | [], [] => true
  | x :: xs, y :: ys => eqV' x y && eqVs xs ys
  | _, _ => false
end
/-- data that may be compared, by how deep it is -/
def okD : Nat → PV → Bool
  | _, .non => true
  | _, .bl _ => true
  | _, .int _ => true
  | _, .str s => PySem.PyData.strOk s
  | n + 1, .tup l => l.all (okD n)
  | n + 1, .lst l => l.all (okD n)
  | n + 1, .frz l => l.all (okD n)
  | _, _ => false
def eqP (p q : PV) : R PV := if (okD 30 p && okD 30 q) = true then .ok (.bl (eqV' p q)) else .stuck
def neP (p q : PV) : R PV := if (okD 30 p && okD 30 q) = true then .ok (.bl (!eqV' p q)) else .stuck
mutual
theorem eqv_toD : ∀ p q : PV, PyData.eqv (toD p) (toD q) = eqV' p q
  | .lst a, .lst b | .lst a, .frz b | .frz a, .lst b | .frz a, .frz b | .tup a, .tup b => by simp only [toD, PyData.eqv, eqV', eqv_toDs a b]
  | .non, q | .bl _, q | .int _, q | .str _, q | .dct, q => by cases q <;> simp only [toD, PyData.eqv, eqV']
  | .lst a, .non | .lst a, .bl _ | .lst a, .int _ | .lst a, .str _ | .lst a, .tup _ | .lst a, .dct => by simp only [toD, PyData.eqv, eqV']
  | .frz a, .non | .frz a, .bl _ | .frz a, .int _ | .frz a, .str _ | .frz a, .tup _ | .frz a, .dct => by simp only [toD, PyData.eqv, eqV']
  | .tup a, .non | .tup a, .bl _ | .tup a, .int _ | .tup a, .str _ | .tup a, .lst _ | .tup a, .frz _ | .tup a, .dct => by simp only [toD, PyData.eqv, eqV']
theorem eqv_toDs : ∀ p q : List PV, PyData.eqvAll (toDs p) (toDs q) = eqVs p q
  | [], [] => by simp only [toDs, PyData.eqvAll, eqVs]
  | x :: xs, y :: ys => by simp only [toDs, PyData.eqvAll, eqVs, eqv_toD x y, eqv_toDs xs ys]
  | [], _ :: _ => by simp only [toDs, PyData.eqvAll, eqVs]
  | _ :: _, [] => by simp only [toDs, PyData.eqvAll, eqVs]
end
mutual
theorem okD_lay : ∀ (n : Nat) (p : PV), okD n p = true → (toD p).canLay0 = true ∧ (toD p).depth ≤ n
  | n, .non, _ => ⟨rfl, Nat.zero_le _⟩
  | n, .bl _, _ => ⟨rfl, Nat.zero_le _⟩
  | n, .int _, _ => ⟨rfl, Nat.zero_le _⟩
  | n, .str s, h => ⟨by simpa only [toD, PyData.canLay0, okD] using h, Nat.zero_le _⟩
  | n, .dct, h => by simp [okD] at h
  | 0, .tup l, h => by simp [okD] at h
  | 0, .lst l, h => by simp [okD] at h
  | 0, .frz l, h => by simp [okD] at h
  | n + 1, .tup l, h => by
    have z := okDs_lay n l (by simpa only [okD] using h)
    simp only [toD, PyData.canLay0, PyData.depth]
    exact ⟨z.1, by omega⟩
  | n + 1, .lst l, h => by
    have z := okDs_lay n l (by simpa only [okD] using h)
    simp only [toD, PyData.canLay0, PyData.depth]
    exact ⟨z.1, by omega⟩
  | n + 1, .frz l, h => by
    have z := okDs_lay n l (by simpa only [okD] using h)
    simp only [toD, PyData.canLay0, PyData.depth]
    exact ⟨z.1, by omega⟩
theorem okDs_lay : ∀ (n : Nat) (l : List PV), l.all (okD n) = true → PyData.canLayAll0 (toDs l) = true ∧ PyData.depthAll (toDs l) ≤ n
  | n, [], _ => ⟨rfl, Nat.zero_le _⟩
  | n, p :: ps, h => by
    rw [List.all_cons, Bool.and_eq_true] at h
    have z1 := okD_lay n p h.1
    have z2 := okDs_lay n ps h.2
    simp only [toDs, PyData.canLayAll0, PyData.depthAll, z1.1, z2.1]
    exact ⟨rfl, Nat.max_le.mpr ⟨z1.2, z2.2⟩⟩
end
theorem okD_shaped {p : PV} (h : okD 30 p = true) : SeqAt.shaped (toD p) = true := by
  have z := okD_lay 30 p h
  unfold SeqAt.shaped
  rw [z.1, decide_eq_true (show (toD p).depth ≤ 64 by omega)] <;> rfl
theorem dpAll_ints {K : PySem.W.Frag} {H : Hp} : ∀ ns : List Int, DpAll K H (ns.map V.int) (toDs (ns.map PV.int))
  | [] => by simp only [List.map_nil, toDs]; exact .nil
  | n :: ns => by simp only [List.map_cons, toDs, toD]; exact .cons (.int n) (dpAll_ints ns)
mutual
theorem rep_dp {K : PySem.W.Frag} {H : Hp} {O : Addr → Prop} : ∀ {v : V} {p : PV} (n : Nat), Rep K H O v p → okD n p = true → Dp K H v (toD p)
  | _, _, _, .non, _ => by simp only [toD]; exact .non
  | _, _, _, .bl b, _ => by simp only [toD]; exact .bl b
  | _, _, _, .int i, _ => by simp only [toD]; exact .int i
  | _, _, _, .str s, _ => by simp only [toD]; exact .str s
  | _, _, 0, .lst _ _ _, h => by simp [okD] at h
  | _, _, n + 1, .lst h1 _ r, h => by simp only [toD]; exact .lst (.inl (.inl h1)) (reps_dp n r (by simpa only [okD] using h))
  | _, _, 0, .tup _ _, h => by simp [okD] at h
  | _, _, n + 1, .tup h1 r, h => by simp only [toD]; exact .tup (sqT_of h1) (reps_dp n r (by simpa only [okD] using h))
  | _, _, _, .frz h1, h => by
    simp only [toD]
    refine .lst ?_ (dpAll_ints _)
    rcases h1 with ⟨⟨o, h1⟩, _⟩ | h1
    · exact .inl (.inr ⟨o, h1⟩)
    · exact h1 _
  | _, _, n, .dct _ _, h => by simp [okD] at h
theorem reps_dp {K : PySem.W.Frag} {H : Hp} {O : Addr → Prop} : ∀ {v : List V} {p : List PV} (n : Nat), Reps K H O v p → p.all (okD n) = true → DpAll K H v (toDs p)
  | _, _, _, .nil, _ => by simp only [toDs]; exact .nil
  | _, _, n, .cons h r, hz => by
    rw [List.all_cons, Bool.and_eq_true] at hz
    simp only [toDs]
    exact .cons (rep_dp n h hz.1) (reps_dp n r hz.2)
end
theorem rt_dp {K : PySem.W.Frag} {H H2 : Hp} {O0 : Addr → Prop} {σ : St} {ρ : Rho} {x : V} {p : PV} (r : RepM K O0 σ ρ .t H H2 x p) (h : okD 30 p = true) : Dp K H2 x (toD p) := by
  rcases r with r | ⟨a, vs, ps, rfl, rfl, e3, e4⟩
  · exact rep_dp 30 r h
  · simp only [toD]; exact .lst (.inl (.inl e3)) (reps_dp 29 e4 (by simpa only [okD] using h))
theorem eqP_exc (p q : PV) (c : Str) : eqP p q ≠ .exc c := by unfold eqP; split <;> exact fun z => nomatch z
theorem neP_exc (p q : PV) (c : Str) : neP p q ≠ .exc c := by unfold neP; split <;> exact fun z => nomatch z
theorem s_eq (K : PySem.W.Frag) : OpS K (rEqD K) .t .t .s eqP := by
  intro H0 O0 σ ρ H H2 x y p q Q S s rx ry G
  unfold eqP at G
  split at G
  · rename_i hz
    rw [Bool.and_eq_true] at hz
    exact ⟨_, _, rt_dp rx hz.1, rt_dp ry hz.2, okD_shaped hz.1, okD_shaped hz.2, by rw [eqv_toD]; exact G _ _ (Same.refl _) (.bl _)⟩
  · exact G.elim
theorem s_ne (K : PySem.W.Frag) : OpS K (rNeD K) .t .t .s neP := by
  intro H0 O0 σ ρ H H2 x y p q Q S s rx ry G
  unfold neP at G
  split at G
  · rename_i hz
    rw [Bool.and_eq_true] at hz
    exact ⟨_, _, rt_dp rx hz.1, rt_dp ry hz.2, okD_shaped hz.1, okD_shaped hz.2, by rw [eqv_toD]; exact G _ _ (Same.refl _) (.bl _)⟩
  · exact G.elim
section
variable {X : Cx} {W : WX} {e a b c : Expr} {pos : Pos} {m : Md} {f g h : Rho → R PV}
theorem e_eq (hu : X.A.units + 64 < cLine) (ha : EJ X W .t a f) (hb : EJ X W .t b g) : EJ X W .s (.Compare a [.Eq] [b] pos) (e2 eqP f g) := e_cmp (op_eqD hu) eqP_exc (s_eq _) ha hb (nomark _)
theorem e_ne (hu : X.A.units + 64 < cLine) (ha : EJ X W .t a f) (hb : EJ X W .t b g) : EJ X W .s (.Compare a [.NotEq] [b] pos) (e2 neP f g) := e_cmp (op_neD hu) neP_exc (s_ne _) ha hb (nomark _)
theorem t_eq (hu : X.A.units + 64 < cLine) (ha : EJ X W .t a f) (hb : EJ X W .t b g) : TJ X W (.Compare a [.Eq] [b] pos) (tB1 (e2 eqP f g)) := t_cmp (op_eqD hu) eqP_exc (s_eq _) ha hb (nomark _)
theorem t_ne (hu : X.A.units + 64 < cLine) (ha : EJ X W .t a f) (hb : EJ X W .t b g) : TJ X W (.Compare a [.NotEq] [b] pos) (tB1 (e2 neP f g)) := t_cmp (op_neD hu) neP_exc (s_ne _) ha hb (nomark _)
def eChain (g1 g2 : PV → PV → R PV) (f g h : Rho → R PV) : Rho → R PV := fun ρ => (f ρ).bind fun x => (g ρ).bind fun y => (g1 x y).bind fun z => (asB z).bind fun k => if k = true then (h ρ).bind fun w => g2 y w else .ok (.bl false)
theorem q_chain {r r' : R2} {g1 g2 : PV → PV → R PV} (hg1 : ∀ p q c, g1 p q ≠ .exc c) (hg2 : ∀ p q c, g2 p q ≠ .exc c) (ho : OpS X.K r .t .t .s g1) (ho' : OpS X.K r' .t .t .s g2) :
    ∀ σ H Q, tE X.K X.mg W .s (eChain g1 g2 f g h) σ H Q → tChain r r' (tE X.K X.mg W .t f) (tE X.K X.mg W .t g) (tE X.K X.mg W .t h) σ H Q := by
  intro σ H Q ⟨H0, O0, ρ, S, G⟩
  refine ⟨H0, O0, ρ, S, ?_⟩
  revert G
  unfold eChain
  cases f ρ with
  | stuck => exact False.elim
  | exc c => exact id
  | ok p =>
    intro G x H1 s1 r1
    refine ⟨H0, O0, ρ, S.step s1, ?_⟩
    revert G
    rw [R.bind_ok]
    cases g ρ with
    | stuck => exact False.elim
    | exc c => exact fun G C H' s' => G C H' (s1.trans s')
    | ok q =>
      intro G y H2 s2 r2
      refine ho S (s1.trans s2) (r1.step s2) (r2.back s1) ?_
      revert G
      rw [R.bind_ok]
      cases hz : g1 p q with
      | stuck => exact False.elim
      | exc c => exact absurd hz (hg1 p q c)
      | ok z =>
        intro G v H3 s3 r3
        revert G
        rw [R.bind_ok]
        cases z with
        | bl k =>
          intro G
          cases r3
          refine ⟨k, rfl, ?_⟩
          cases k with
          | false => rw [if_neg Bool.false_ne_true]; exact G _ _ ((s1.trans s2).trans s3) (.bl false)
          | true =>
            rw [if_pos rfl]
            have s123 := (s1.trans s2).trans s3
            refine ⟨H0, O0, ρ, S.step s123, ?_⟩
            have G' : Got X.K X.mg W O0 σ ρ .s H Q ((h ρ).bind fun w => g2 q w) := G
            revert G'
            cases h ρ with
            | stuck => exact False.elim
            | exc c => exact fun G C H' s' => G C H' (s123.trans s')
            | ok w =>
              intro G v H4 s4 r4
              exact ho' S (s123.trans s4) ((r2.back s1).step (s3.trans s4)) (r4.back s123) (Got.v (hg2 q w) (s123.trans s4) G)
        | _ => exact False.elim
theorem e_chain {op op' : CmpOp} {r r' : R2} {g1 g2 : PV → PV → R PV} (hr : OpR X (compareOp op) r) (hr' : OpR X (compareOp op') r') (hg1 : ∀ p q c, g1 p q ≠ .exc c) (hg2 : ∀ p q c, g2 p q ≠ .exc c) (ho : OpS X.K r .t .t .s g1) (ho' : OpS X.K r' .t .t .s g2)
    (ha : EJ X W .t a f) (hb : EJ X W .t b g) (hc : EJ X W .t c h) (hm : lastMarks [op, op'] [b, c] = false) : EJ X W .s (.Compare a [op, op'] [b, c] pos) (eChain g1 g2 f g h) :=
  pe_imp (pe_chain hr hr' ha hb hc hm) (q_chain hg1 hg2 ho ho')
theorem e_leLt (ha : EJ X W .t a f) (hb : EJ X W .t b g) (hc : EJ X W .t c h) (hm : lastMarks [.LtE, .Lt] [b, c] = false := by with_unfolding_all rfl) : EJ X W .s (.Compare a [.LtE, .Lt] [b, c] pos) (eChain leP ltP f g h) :=
  e_chain op_le op_lt intP_exc intP_exc (s_int0 fun _ _ _ _ => .bl _) (s_int0 fun _ _ _ _ => .bl _) ha hb hc hm
end
end PL
set_option Elab.async false
set_option linter.all false
set_option maxRecDepth 100000
set_option autoImplicit false
namespace PL
open PySem PySem.Spec L2
open PyProof.Rows hiding St
def ixP : PV → PV → R PV
  | .lst l, .int i | .tup l, .int i | .frz l, .int i => match atI l i with
    | some p => .ok p
    | none => .stuck
  | .str s, .int i => if s.length ≤ sizeLine then (match atI s.cps.toList i with
    | some c => .ok (.str ⟨#[c]⟩)
    | none => .stuck) else .stuck
  | _, _ => .stuck
theorem ixP_exc (p q : PV) (c : Str) : ixP p q ≠ .exc c := by
  unfold ixP; split <;> (try split) <;> (try split) <;> exact fun z => nomatch z
theorem reps_at {K : PySem.W.Frag} {H : Hp} {O : Addr → Prop} {vs : List V} {ps : List PV} {i : Int} {p : PV} (r : Reps K H O vs ps) (h : atI ps i = some p) : ∃ v, atI vs i = some v ∧ Rep K H O v p := by
  unfold atI at h ⊢
  rw [r.length]
  cases q : ixN ps.length i with
  | none => rw [q] at h; cases h
  | some j =>
    rw [q, Option.bind_some] at h
    rw [Option.bind_some]
    exact r.get h
theorem s_ix (K : PySem.W.Frag) : OpS K (rIx K) .t .t .s ixP := by
  intro H0 O0 σ ρ H H2 x y p q Q S s rx ry G
  unfold ixP at G
  split at G
  · split at G
    · rename_i p hp
      obtain ⟨a, vs, rfl, h1, r1⟩ := rt_lst rx
      obtain ⟨v, h2, r2⟩ := reps_at r1 hp
      exact .inl ⟨a, vs, _, v, rfl, rt_int ry, .inl (.inl h1), h2, G _ _ (Same.refl _) r2⟩
    · exact G.elim
  · split at G
    · rename_i p hp
      obtain ⟨a, vs, rfl, h1, r1⟩ := rt_tup rx
      obtain ⟨v, h2, r2⟩ := reps_at r1 hp
      exact .inr (.inl ⟨a, vs, _, v, rfl, rt_int ry, sqT_of h1, h2, G _ _ (Same.refl _) r2⟩)
    · exact G.elim
  · split at G
    · rename_i p hp
      obtain ⟨a, ns, rfl, rfl, h1⟩ := rt_frz rx
      obtain ⟨v, h2, r2⟩ := reps_at (K := K) (H := H2) (O := OO O0 σ ρ) (Reps.ofInts ns) hp
      exact .inl ⟨a, _, _, v, rfl, rt_int ry, h1, h2, G _ _ (Same.refl _) r2⟩
    · exact G.elim
  · split at G
    · rename_i hz
      split at G
      · rename_i c hc
        exact .inr (.inr ⟨_, _, c, rt_str rx, rt_int ry, hz, hc, G _ _ (Same.refl _) (.str _)⟩)
      · exact G.elim
    · exact G.elim
  · exact G.elim
def cutG {α : Type} (xs : List α) (lo hi : Option Int) : List α := (xs.drop (HT.sIx xs.length 0 lo)).take (HT.sIx xs.length xs.length hi - HT.sIx xs.length 0 lo)
theorem reps_cut {K : PySem.W.Frag} {H : Hp} {O : Addr → Prop} {vs : List V} {ps : List PV} (lo hi : Option Int) (r : Reps K H O vs ps) : Reps K H O (cutV vs lo hi) (cutG ps lo hi) := by
  unfold cutV cutG
  rw [r.length]
  exact (r.drop _).take _
def slP (p : PV) (lo hi : Option Int) : R PV := match p with
  | .lst l | .frz l => .ok (.lst (cutG l lo hi))
  | .tup l => .ok (.tup (cutG l lo hi))
  | .str s => if s.length ≤ sizeLine then .ok (.str (cutS s lo hi)) else .stuck
  | _ => .stuck
def slL (p : PV) (lo hi : Option Int) : R PV := match p with
  | .lst l | .frz l => .ok (.lst (cutG l lo hi))
  | _ => .stuck
def asI : PV → R Int
  | .int i => .ok i
  | _ => .stuck
def oNone : Rho → R (Option Int) := fun _ => .ok none
def oSome (f : Rho → R PV) : Rho → R (Option Int) := fun ρ => (f ρ).bind fun p => (asI p).bind fun i => .ok (some i)
def eSl (g : PV → Option Int → Option Int → R PV) (f : Rho → R PV) (lo hi : Rho → R (Option Int)) : Rho → R PV := fun ρ => (f ρ).bind fun p => (lo ρ).bind fun l => (hi ρ).bind fun h => g p l h
def tO' (K : PySem.W.Frag) (mg : Str → Option Value) (W : WX) (f : Rho → R (Option Int)) : L2.TO := fun σ H Q =>
  ∃ H0 O0 ρ, StR K H0 O0 H σ ρ ∧ (match f ρ with
    | .ok o => ∀ H', Same H H' → Q o H'
    | .exc c => ∀ C H', Same H H' → mg c = some (.ref C) → W (.ref C) none σ H'
    | .stuck => False)
abbrev OJ (X : Cx) (W : WX) (e : Option Expr) (f : Rho → R (Option Int)) : Prop := PO X e (tO' X.K X.mg W f)
def SlS (K : PySem.W.Frag) (r : V → Option Int → Option Int → Hp → VK → Prop) (m : Md) (g : PV → Option Int → Option Int → R PV) : Prop :=
  ∀ {H0 O0 σ ρ H H2 x p lo hi} {Q : VK}, StR K H0 O0 H σ ρ → Same H H2 → RepM K O0 σ ρ .t H H2 x p → GotV K O0 σ ρ m H H2 Q (g p lo hi) → r x lo hi H2 Q
section
variable {X : Cx} {W : WX} {e a b c : Expr} {pos p2 : Pos} {m : Md} {f g h : Rho → R PV} {lo hi : Option Expr} {fl fh : Rho → R (Option Int)}
theorem po_imp {t t' : L2.TO} {e : Option Expr} (h : PO X e t) (q : ∀ σ H Q, t' σ H Q → t σ H Q) : PO X e t' := ⟨fun pins s σ H Q I hw => h.run pins s σ H Q I (q σ H Q hw)⟩
theorem o_none : OJ X W none oNone := by
  refine po_imp po_none fun σ H Q ⟨H0, O0, ρ, S, G⟩ => ?_
  exact G H (Same.refl H)
theorem o_some (ha : EJ X W .s e f) : OJ X W (some e) (oSome f) := by
  refine po_imp (po_some ha) fun σ H Q ⟨H0, O0, ρ, S, G⟩ => ⟨H0, O0, ρ, S, ?_⟩
  revert G
  unfold oSome
  cases f ρ with
  | stuck => exact False.elim
  | exc c => exact fun G => G
  | ok p =>
    cases p with
    | int i => exact fun G v H' s r => by cases r; exact ⟨i, rfl, G H' s⟩
    | _ => exact False.elim
theorem e_sl {r : V → Option Int → Option Int → Hp → VK → Prop} {g' : PV → Option Int → Option Int → R PV} (hr : SlR X r) (hg : ∀ p l h c, g' p l h ≠ .exc c) (ho : SlS X.K r m g') (ha : EJ X W .t a f) (hl : OJ X W lo fl) (hh : OJ X W hi fh) :
    EJ X W m (.Subscript a (.Slice lo hi none p2) pos) (eSl g' f fl fh) := by
  refine pe_imp (pe_slice hr ha hl hh) fun σ H Q ⟨H0, O0, ρ, S, G⟩ => ⟨H0, O0, ρ, S, ?_⟩
  revert G
  unfold eSl
  cases f ρ with
  | stuck => exact False.elim
  | exc c => exact fun G => G
  | ok p =>
    intro G x H1 s1 r1
    refine ⟨H0, O0, ρ, S.step s1, ?_⟩
    revert G
    rw [R.bind_ok]
    cases fl ρ with
    | stuck => exact False.elim
    | exc c => exact fun G C H' s' => G C H' (s1.trans s')
    | ok l =>
      intro G H2 s2
      refine ⟨H0, O0, ρ, S.step (s1.trans s2), ?_⟩
      revert G
      rw [R.bind_ok]
      cases fh ρ with
      | stuck => exact False.elim
      | exc c => exact fun G C H' s' => G C H' ((s1.trans s2).trans s')
      | ok h =>
        intro G H3 s3
        exact ho S ((s1.trans s2).trans s3) (r1.step (s2.trans s3)) (Got.v (hg p l h) ((s1.trans s2).trans s3) G)
def rSlP (K : PySem.W.Frag) : V → Option Int → Option Int → Hp → VK → Prop := fun x lo hi H Q => rSlL K x lo hi H Q ∨ rSlA K x lo hi H Q ∨ rSlS x lo hi H Q
theorem sl_P : SlR X (rSlP X.K) := sl_list.or (sl_tupA.or sl_str)
theorem slP_exc (p : PV) (l h : Option Int) (c : Str) : slP p l h ≠ .exc c := by
  unfold slP; split <;> (try split) <;> exact fun z => nomatch z
theorem slL_exc (p : PV) (l h : Option Int) (c : Str) : slL p l h ≠ .exc c := by
  unfold slL; split <;> exact fun z => nomatch z
theorem sl_ints (ns : List Int) (lo hi : Option Int) : cutV (ns.map V.int) lo hi = (cutG ns lo hi).map V.int ∧ cutG (ns.map PV.int) lo hi = (cutG ns lo hi).map PV.int := by
  unfold cutV cutG
  rw [List.length_map, List.length_map, List.map_take, List.map_drop, List.map_take, List.map_drop]
  exact ⟨rfl, rfl⟩
theorem s_slL (K : PySem.W.Frag) : SlS K (rSlL K) .f slL := by
  intro H0 O0 σ ρ H H2 x p lo hi Q S s rx G
  unfold slL at G
  split at G
  · obtain ⟨a, vs, rfl, h1, r1⟩ := rt_lst rx
    exact ⟨a, vs, rfl, .inl (.inl h1), fun q hq => G _ _ (same_new hq) (new_lst (H0 := H0) s (reps_cut lo hi r1) hq)⟩
  · obtain ⟨a, ns, rfl, rfl, h1⟩ := rt_frz rx
    refine ⟨a, _, rfl, h1, fun q hq => G _ _ (same_new hq) ?_⟩
    rw [(sl_ints ns lo hi).1, (sl_ints ns lo hi).2]
    exact new_lst (H0 := H0) s (Reps.ofInts _) hq
  · exact G.elim
theorem s_slP (K : PySem.W.Frag) : SlS K (rSlP K) .s slP := by
  intro H0 O0 σ ρ H H2 x p lo hi Q S s rx G
  unfold slP at G
  split at G
  · exact .inl (s_slL K S s rx fun v H' s' r => G v H' s' (RepM.f_s S r))
  · exact .inl (s_slL K S s rx fun v H' s' r => G v H' s' (RepM.f_s S r))
  · obtain ⟨a, vs, rfl, h1, r1⟩ := rt_tup rx
    refine .inr (.inl ⟨a, vs, rfl, sqT_of h1, fun ⟨z1, z2⟩ => ?_, fun _ q hq => G _ _ (same_new hq) (new_tup (H := H) (S.step s) (reps_cut lo hi r1) hq)⟩)
    have e : ∀ {α : Type} (l : List α), l.length = vs.length → cutG l lo hi = l := fun l hl => by
      unfold cutG
      rw [hl, z1, z2, List.drop_zero, Nat.sub_zero, ← hl, List.take_length]
    rw [e _ r1.length.symm] at G
    exact G _ _ (Same.refl _) (.tup h1 r1)
  · split at G
    · rename_i hz
      exact .inr (.inr ⟨_, rt_str rx, hz, G _ _ (Same.refl _) (.str _)⟩)
    · exact G.elim
  · exact G.elim
theorem e_slice (ha : EJ X W .t a f) (hl : OJ X W lo fl) (hh : OJ X W hi fh) : EJ X W .s (.Subscript a (.Slice lo hi none p2) pos) (eSl slP f fl fh) := e_sl sl_P slP_exc (s_slP _) ha hl hh
theorem e_sliceL (ha : EJ X W .t a f) (hl : OJ X W lo fl) (hh : OJ X W hi fh) : EJ X W .f (.Subscript a (.Slice lo hi none p2) pos) (eSl slL f fl fh) := e_sl sl_list slL_exc (s_slL _) ha hl hh
theorem e_item (ha : EJ X W .t a f) (hb : EJ X W .t b g) (hs : PlainIx b) : EJ X W .s (.Subscript a b pos) (e2 ixP f g) := e_ix ix_seq ixP_exc (s_ix _) ha hb hs
end
def lenP : List PV → R PV
  | [.lst l] | [.tup l] | [.frz l] => .ok (.int l.length)
  | [.str s] => if s.length ≤ sizeLine then .ok (.int s.length) else .stuck
  | _ => .stuck
def absP : List PV → R PV
  | [.int i] => .ok (.int (if i < 0 then -i else i))
  | _ => .stuck
def intP1 : List PV → R PV
  | [.int i] => .ok (.int i)
  | [.bl k] => .ok (.int (if k then 1 else 0))
  | _ => .stuck
def listP : List PV → R PV
  | [.lst l] | [.tup l] | [.frz l] => .ok (.lst l)
  | _ => .stuck
def tupleP : List PV → R PV
  | [.lst l] | [.tup l] | [.frz l] => .ok (.tup l)
  | _ => .stuck
def asBs : List PV → Option (List Bool)
  | [] => some []
  | .bl b :: r => (asBs r).map (b :: ·)
  | _ => none
def allP : List PV → R PV
  | [.lst l] => match asBs l with
    | some bs => .ok (.bl (bs.all id))
    | none => .stuck
  | _ => .stuck
def divmodP : List PV → R PV
  | [.int i, .int j] => if 0 < j ∧ j.natAbs.log2 < 9000 then .ok (.tup [.int (i / j), .int (i % j)]) else .stuck
  | _ => .stuck
theorem asBs_map : ∀ {l : List PV} {bs : List Bool}, asBs l = some bs → l = bs.map PV.bl
  | [], _, h => by cases h; rfl
  | .bl b :: r, bs, h => by
    unfold asBs at h
    obtain ⟨cs, h1, rfl⟩ := Option.map_eq_some_iff.mp h
    rw [asBs_map h1]; rfl
  | .non :: _, _, h | .int _ :: _, _, h | .str _ :: _, _, h | .tup _ :: _, _, h | .lst _ :: _, _, h | .frz _ :: _, _, h | .dct :: _, _, h => by simp [asBs] at h
theorem asBs_of : ∀ bs : List Bool, asBs (bs.map PV.bl) = some bs
  | [] => rfl
  | b :: bs => by simp [asBs, asBs_of bs]
section
variable {X : Cx} {W : WX}
theorem pr1 {F : V → PV → Prop} {vs : List V} {p : PV} (h : Paired F vs [p]) : ∃ v, vs = [v] ∧ F v p := by
  cases h with
  | cons a r => cases r; exact ⟨_, rfl, a⟩
theorem pr2 {F : V → PV → Prop} {vs : List V} {p q : PV} (h : Paired F vs [p, q]) : ∃ v w, vs = [v, w] ∧ F v p ∧ F w q := by
  cases h with
  | cons a r =>
    obtain ⟨w, rfl, b⟩ := pr1 r
    exact ⟨_, _, rfl, a, b⟩
theorem s_len (K : PySem.W.Frag) : CallS K (fun xs H Q => ∃ x n, xs = [x] ∧ LenV K x H n ∧ Q (.int n) H) .t .s lenP := by
  intro H0 O0 σ ρ H H2 xs ps Q S s r G
  unfold lenP at G
  split at G
  · obtain ⟨v, rfl, r1⟩ := pr1 r
    obtain ⟨a, vs, rfl, h1, r2⟩ := rt_lst r1
    exact ⟨_, vs.length, rfl, .inl ⟨vs, .inl (.inl h1), rfl⟩, by rw [r2.length]; exact G _ _ (Same.refl _) (.int _)⟩
  · obtain ⟨v, rfl, r1⟩ := pr1 r
    obtain ⟨a, vs, rfl, h1, r2⟩ := rt_tup r1
    exact ⟨_, vs.length, rfl, .inr ⟨vs, sqT_of h1, rfl⟩, by rw [r2.length]; exact G _ _ (Same.refl _) (.int _)⟩
  · obtain ⟨v, rfl, r1⟩ := pr1 r
    obtain ⟨a, ns, rfl, rfl, h1⟩ := rt_frz r1
    refine ⟨_, _, rfl, .inl ⟨_, h1, rfl⟩, ?_⟩
    rw [List.length_map] at G ⊢
    exact G _ _ (Same.refl _) (.int _)
  · split at G
    · rename_i hz
      obtain ⟨v, rfl, r1⟩ := pr1 r
      rw [rt_str r1]
      exact ⟨_, _, rfl, ⟨hz, rfl⟩, G _ _ (Same.refl _) (.int _)⟩
    · exact G.elim
  · exact G.elim
theorem s_abs (K : PySem.W.Frag) : CallS K (fun xs H Q => ∃ i, xs = [.int i] ∧ Q (.int (if i < 0 then -i else i)) H) .t .s absP := by
  intro H0 O0 σ ρ H H2 xs ps Q S s r G
  unfold absP at G
  split at G
  · obtain ⟨v, rfl, r1⟩ := pr1 r
    rw [rt_int r1]; exact ⟨_, rfl, G _ _ (Same.refl _) (.int _)⟩
  · exact G.elim
theorem s_int1 (K : PySem.W.Frag) : CallS K (fun xs H Q => (∃ i, xs = [.int i] ∧ Q (.int i) H) ∨ ∃ k, xs = [.bl k] ∧ Q (.int (if k then 1 else 0)) H) .t .s intP1 := by
  intro H0 O0 σ ρ H H2 xs ps Q S s r G
  unfold intP1 at G
  split at G
  · obtain ⟨v, rfl, r1⟩ := pr1 r
    rw [rt_int r1]; exact .inl ⟨_, rfl, G _ _ (Same.refl _) (.int _)⟩
  · obtain ⟨v, rfl, r1⟩ := pr1 r
    rw [rt_bl r1]; exact .inr ⟨_, rfl, G _ _ (Same.refl _) (.int _)⟩
  · exact G.elim
theorem s_tuple (K : PySem.W.Frag) : CallS K (fun xs H Q => ∃ p ys, xs = [.ref p] ∧ ((SqL K H p ys ∧ ∀ l, H l = none → Q (.ref l) (upd H l (.tup ys))) ∨ (SqT K H p ys ∧ Q (.ref p) H))) .t .s tupleP := by
  intro H0 O0 σ ρ H H2 xs ps Q S s r G
  unfold tupleP at G
  split at G
  · obtain ⟨v, rfl, r1⟩ := pr1 r
    obtain ⟨a, vs, rfl, h1, r2⟩ := rt_lst r1
    exact ⟨a, vs, rfl, .inl ⟨.inl (.inl h1), fun l hl => G _ _ (same_new hl) (new_tup (H := H) (S.step s) r2 hl)⟩⟩
  · obtain ⟨v, rfl, r1⟩ := pr1 r
    obtain ⟨a, vs, rfl, h1, r2⟩ := rt_tup r1
    exact ⟨a, vs, rfl, .inr ⟨sqT_of h1, G _ _ (Same.refl _) (.tup h1 r2)⟩⟩
  · obtain ⟨v, rfl, r1⟩ := pr1 r
    obtain ⟨a, ns, rfl, rfl, h1⟩ := rt_frz r1
    exact ⟨a, _, rfl, .inl ⟨h1, fun l hl => G _ _ (same_new hl) (new_tup (H := H) (S.step s) (Reps.ofInts ns) hl)⟩⟩
  · exact G.elim
theorem s_all (K : PySem.W.Frag) : CallS K (rAll K) .t .s allP := by
  intro H0 O0 σ ρ H H2 xs ps Q S s r G
  unfold allP at G
  split at G
  · split at G
    · rename_i bs hbs
      obtain ⟨v, rfl, r1⟩ := pr1 r
      rw [asBs_map hbs] at r1
      obtain ⟨a, vs, rfl, h1, r2⟩ := rt_lst r1
      rw [r2.bls] at h1
      exact ⟨a, bs, rfl, .inl (.inl h1), G _ _ (Same.refl _) (.bl _)⟩
    · exact G.elim
  · exact G.elim
theorem noPy {i j : Int} (h : j.natAbs.log2 < 9000) : Builtin.divisionGoesByPylong i j = false := PyProof.noPylong_of_log2 h
theorem s_divmod (K : PySem.W.Frag) : CallS K (fun xs H Q => ∃ i j, xs = [.int i, .int j] ∧ CDivP i j ∧ ∀ p, H p = none → Q (.ref p) (upd H p (.tup [.int (i / j), .int (i % j)]))) .t .s divmodP := by
  intro H0 O0 σ ρ H H2 xs ps Q S s r G
  unfold divmodP at G
  split at G
  · split at G
    · rename_i hz
      obtain ⟨v, w, rfl, r1, r2⟩ := pr2 r
      rw [rt_int r1, rt_int r2]
      exact ⟨_, _, rfl, ⟨hz.1, noPy hz.2⟩, fun l hl => G _ _ (same_new hl) (new_tup (H := H) (S.step s) (.cons (.int _) (.cons (.int _) .nil)) hl)⟩
    · exact G.elim
  · exact G.elim
theorem lenP_exc (ps : List PV) (c : Str) : lenP ps ≠ .exc c := by unfold lenP; split <;> (try split) <;> exact fun z => nomatch z
theorem absP_exc (ps : List PV) (c : Str) : absP ps ≠ .exc c := by unfold absP; split <;> exact fun z => nomatch z
theorem intP1_exc (ps : List PV) (c : Str) : intP1 ps ≠ .exc c := by unfold intP1; split <;> exact fun z => nomatch z
theorem tupleP_exc (ps : List PV) (c : Str) : tupleP ps ≠ .exc c := by unfold tupleP; split <;> exact fun z => nomatch z
theorem allP_exc (ps : List PV) (c : Str) : allP ps ≠ .exc c := by unfold allP; split <;> (try split) <;> exact fun z => nomatch z
theorem divmodP_exc (ps : List PV) (c : Str) : divmodP ps ≠ .exc c := by unfold divmodP; split <;> (try split) <;> exact fun z => nomatch z
variable {e : Expr} {es : List Expr} {pos p : Pos} {fA : Rho → R (List PV)} {f : Rho → R PV}
theorem e_len (mg : X.mg "len" = none) (hg : Gl X "len") (ha : AJ X W .t [e] fA) (he : starEach [e] X.env = (false, eval e X.env) :: starEach [] X.env := by rfl) : EJ X W .s (.Call (.Name "len" p) [e] [] pos) (eD lenP fA) := e_callB call_len lenP_exc (s_len _) hg mg PySem.boot_len ha (he := he)
theorem e_abs (mg : X.mg "abs" = none) (hg : Gl X "abs") (ha : AJ X W .t [e] fA) (he : starEach [e] X.env = (false, eval e X.env) :: starEach [] X.env := by rfl) : EJ X W .s (.Call (.Name "abs" p) [e] [] pos) (eD absP fA) := e_callB call_abs absP_exc (s_abs _) hg mg (by decide +kernel) ha (he := he)
theorem e_int1 (mg : X.mg "int" = none) (hg : Gl X "int") (ha : AJ X W .t [e] fA) (he : starEach [e] X.env = (false, eval e X.env) :: starEach [] X.env := by rfl) : EJ X W .s (.Call (.Name "int" p) [e] [] pos) (eD intP1 fA) := e_callTy call_int1 intP1_exc (s_int1 _) hg mg (by decide +kernel) ha (he := he)
theorem e_tuple (mg : X.mg "tuple" = none) (hg : Gl X "tuple") (ha : AJ X W .t [e] fA) (he : starEach [e] X.env = (false, eval e X.env) :: starEach [] X.env := by rfl) : EJ X W .s (.Call (.Name "tuple" p) [e] [] pos) (eD tupleP fA) := e_callTy call_tuple_of tupleP_exc (s_tuple _) hg mg (by decide +kernel) ha (he := he)
theorem e_all (hc : X.calm = true) (mg : X.mg "all" = none) (hg : Gl X "all") (ha : AJ X W .t [e] fA) (he : starEach [e] X.env = (false, eval e X.env) :: starEach [] X.env := by rfl) : EJ X W .s (.Call (.Name "all" p) [e] [] pos) (eD allP fA) := e_callB (cr_all hc) allP_exc (s_all _) hg mg (by decide +kernel) ha (he := he)
theorem e_divmod {e' : Expr} (mg : X.mg "divmod" = none) (hg : Gl X "divmod") (ha : AJ X W .t [e, e'] fA) (he : starEach [e, e'] X.env = (false, eval e X.env) :: starEach [e'] X.env := by rfl) (hpl : (backTo pos (starEach [e'] X.env)).any (·.1) = false := by rfl) : EJ X W .s (.Call (.Name "divmod" p) [e, e'] [] pos) (eD divmodP fA) := e_callB call_divmodW divmodP_exc (s_divmod _) hg mg (by decide +kernel) ha (he := he) (hpl := hpl)
def tyN : PV → String
  | .non => "NoneType" | .bl _ => "bool" | .int _ => "int" | .str _ => "str" | .tup _ => "tuple" | .lst _ => "list" | .frz _ => "list" | .dct => "dict"
def isiP (n : String) (p : PV) : R PV := match kitB (tyN p) n with
  | some b => .ok (.bl b)
  | none => .stuck
theorem rt_ty {K : PySem.W.Frag} {H H2 : Hp} {O0 : Addr → Prop} {σ : St} {ρ : Rho} {x : V} {p : PV} (r : RepM K O0 σ ρ .t H H2 x p) : TyX K H2 x (.type (tyN p)) := by
  rcases r with r | ⟨a, vs, ps, rfl, rfl, e3, e4⟩
  · cases r with
    | non => exact .base .non
    | bl b => exact .base (.bl b)
    | int i => exact .base (.int i)
    | str i => exact .base (.str i)
    | lst h _ _ => exact .base (.lst h)
    | tup h _ =>
      rcases h with ⟨h, _⟩ | ⟨o, its, n, h1, h2, _⟩
      · exact .base (.tup h)
      · exact .kTuple h1 h2
    | frz h =>
      rcases h with ⟨⟨o, h⟩, _⟩ | h
      · exact .base (.frz h)
      · rcases h fun _ => none with (h | ⟨_, h⟩) | ⟨o, its, n, h1, h2, _⟩
        · cases h
        · cases h
        · exact .kList h1 h2
    | dct h _ => exact .base (.dK h)
  · exact .base (.lst e3)
theorem e_isi {n : String} {en : Expr} (mg : X.mg "isinstance" = none) (hg : Gl X "isinstance") (ha : EJ X W .t e f) (hn : PE X en (tC (.ty n))) (he : starEach [e, en] X.env = (false, eval e X.env) :: starEach [en] X.env := by rfl) (he2 : starEach [en] X.env = (false, eval en X.env) :: starEach [] X.env := by rfl) (hpl : (backTo pos (starEach [en] X.env)).any (·.1) = false := by rfl) :
    EJ X W .s (.Call (.Name "isinstance" p) [e, en] [] pos) (e1 (isiP n) f) := by
  refine pe_imp (pe_callB call_isi hg mg PyProof.Rows.boot_isinstance (pa_cons ha (pa_cons hn pa_nil he2) he) (by decide) (by decide) he hpl) fun σ H Q ⟨H0, O0, ρ, S, G⟩ => ⟨H0, O0, ρ, S, ?_⟩
  revert G
  unfold e1
  cases f ρ with
  | stuck => exact False.elim
  | exc c => exact fun G => G
  | ok q =>
    intro G x H1 s1 r1
    rw [R.bind_ok] at G
    unfold isiP at G
    split at G
    · rename_i b hb
      exact ⟨x, .ty n, _, _, b, rfl, .ty n, rt_ty r1, kit_ty hb, G _ _ s1 (.bl b)⟩
    · exact G.elim
def isiP2 (n m : String) (p : PV) : R PV := match kitB (tyN p) n, kitB (tyN p) m with
  | some b, some c => .ok (.bl (b || c))
  | _, _ => .stuck
theorem e_isi2 {n m : String} {en em : Expr} {pt : Pos} {k : Nat} (mg : X.mg "isinstance" = none) (hg : Gl X "isinstance") (ha : EJ X W .t e f) (hn : PE X en (tC (.ty n))) (hm : PE X em (tC (.ty m))) (he : starEach [e, .Tuple [en, em] k pt] X.env = (false, eval e X.env) :: starEach [.Tuple [en, em] k pt] X.env := by rfl)
    (he2 : starEach [.Tuple [en, em] k pt] X.env = (false, eval (.Tuple [en, em] k pt) X.env) :: starEach [] X.env := by rfl) (he3 : starEach [en, em] X.env = (false, eval en X.env) :: starEach [em] X.env := by rfl) (he4 : starEach [em] X.env = (false, eval em X.env) :: starEach [] X.env := by rfl) (hpl : (backTo pos (starEach [.Tuple [en, em] k pt] X.env)).any (·.1) = false := by rfl) :
    EJ X W .s (.Call (.Name "isinstance" p) [e, .Tuple [en, em] k pt] [] pos) (e1 (isiP2 n m) f) := by
  refine pe_imp (pe_callB call_isiT hg mg PyProof.Rows.boot_isinstance (pa_cons ha (pa_cons (pe_tup (pa_cons hn (pa_cons hm pa_nil he4) he3)) pa_nil he2) he) (by decide) (by decide) he hpl) fun σ H Q ⟨H0, O0, ρ, S, G⟩ => ⟨H0, O0, ρ, S, ?_⟩
  revert G
  unfold e1
  cases f ρ with
  | stuck => exact False.elim
  | exc c => exact fun G => G
  | ok q =>
    intro G x H1 s1 r1
    rw [R.bind_ok] at G
    unfold isiP2 at G
    split at G
    · rename_i b c hb hc
      refine ⟨by show 2 ≤ sizeLine; decide, fun t ht => ?_⟩
      refine ⟨x, t, [.ty n, .ty m], _, [.type n, .type m], b || c, rfl, upd_same, .cons (.ty n) (.cons (.ty m) .nil), rt_ty (r1.step (same_new ht)), kitAny_cons (kit_ty hb) (fun e => ?_) (fun e => by rw [e]; rfl), G _ _ (s1.trans (same_new ht)) (.bl _)⟩
      rw [e, Bool.false_or]
      exact kitAny_cons (kit_ty hc) (fun e => by rw [e]; exact kitAny_nil) fun e => e
    · exact G.elim
end
end PL
set_option Elab.async false
set_option linter.all false
set_option maxRecDepth 100000
set_option autoImplicit false
namespace PL
open PySem PySem.Spec L2
open PyProof.Rows hiding St
def Kept (O : Addr → Prop) (H : Hp) (O' : Addr → Prop) (H' : Hp) : Prop := ∀ a o, H a = some o → ¬ O a → H' a = some o ∧ ¬ O' a
theorem Kept.refl (O : Addr → Prop) (H : Hp) : Kept O H O H := fun _ _ h n => ⟨h, n⟩
theorem Kept.trans {O O1 O2 : Addr → Prop} {H H1 H2 : Hp} (a : Kept O H O1 H1) (b : Kept O1 H1 O2 H2) : Kept O H O2 H2 := fun c o h n => b c o (a c o h n).1 (a c o h n).2
theorem Kept.same {O : Addr → Prop} {H H' : Hp} (s : Same H H') : Kept O H O H' := fun a o h n => ⟨s a o h, n⟩
structure ItOk (K : PySem.W.Frag) (J : It) (items : List PV) (O1 : Addr → Prop) (H1 : Hp) : Prop where
  go : ∀ i H O, Kept O1 H1 O H → i < items.length → J.go i H
  stop : ∀ i H O, Kept O1 H1 O H → items.length ≤ i → J.stop i H
  yld : ∀ i H O x H' p, Kept O1 H1 O H → (∀ a, O a → H a ≠ none) → items[i]? = some p → J.yld i H x H' → Same H H' ∧ Rep K H' O x p
def GotI (K : PySem.W.Frag) (mg : Str → Option Value) (W : WX) (O0 : Addr → Prop) (σ : St) (ρ : Rho) (H : Hp) (Q : It → Hp → Prop) : R (List PV) → Prop
  | .ok items => ∀ J H', Same H H' → ItOk K J items (OO O0 σ ρ) H' → Q J H'
  | .exc c => ∀ C H', Same H H' → mg c = some (.ref C) → W (.ref C) none σ H'
  | .stuck => False
def tI (K : PySem.W.Frag) (mg : Str → Option Value) (W : WX) (f : Rho → R (List PV)) : TI := fun σ H Q =>
  ∃ H0 O0 ρ, StR K H0 O0 H σ ρ ∧ GotI K mg W O0 σ ρ H Q (f ρ)
abbrev IJ (X : Cx) (W : WX) (tg it : Expr) (f : Rho → R (List PV)) : Prop := PI X tg it (tI X.K X.mg W f)
section
variable {X : Cx} {W : WX} {e e' e'' tg : Expr} {pos p : Pos} {f : Rho → R PV} {fA : Rho → R (List PV)} {K : PySem.W.Frag}
theorem pi_imp {t t' : TI} (h : PI X tg e t) (q : ∀ σ H Q, t' σ H Q → t σ H Q) : PI X tg e t' := ⟨fun pins s σ H Q I hw => h.run pins s σ H Q I (q σ H Q hw)⟩
/-- the items of a list, a tuple -/
def asL : PV → R (List PV)
  | .lst l | .frz l => .ok l
  | _ => .stuck
def asS : PV → R (List PV)
  | .lst l | .frz l | .tup l => .ok l
  | _ => .stuck
def iRv (f : Rho → R PV) : Rho → R (List PV) := fun ρ => (f ρ).bind fun p => (asS p).bind fun l => .ok l.reverse
theorem kept_reps {H H1 : Hp} {O O1 : Addr → Prop} (k : Kept O1 H1 O H) {v : V} {p : PV} (r : Rep K H1 O1 v p) : Rep K H O v p := r.mono k
theorem lst_it {H1 : Hp} {O1 : Addr → Prop} {a : Addr} {l : List PV} (r : Rep K H1 O1 (.ref a) (.lst l)) : ItOk K (Itl K a) l O1 H1 ∧ ∃ xs, SqL K H1 a xs := by
  cases r with
  | @lst _ vs _ h n r =>
    refine ⟨⟨fun i H O k hi => ?_, fun i H O k hi => ⟨vs, .inl (.inl (k _ _ h n).1), by rw [r.length]; exact hi⟩, fun i H O x H' p k _ hp hy => ?_⟩, vs, .inl (.inl h)⟩
    · obtain ⟨v, hv, _⟩ := r.get (List.getElem?_eq_getElem hi)
      exact ⟨vs, v, .inl (.inl (k _ _ h n).1), hv⟩
    · obtain ⟨rfl, hx⟩ := hy
      obtain ⟨q, hq, rq⟩ := r.get' (hx vs (.inl (.inl (k _ _ h n).1)))
      rw [hp] at hq; cases hq
      exact ⟨Same.refl _, kept_reps k rq⟩
theorem frz_it {H1 : Hp} {O1 : Addr → Prop} {a : Addr} {l : List PV} (r : Rep K H1 O1 (.ref a) (.frz l)) : ItOk K (Itl K a) l O1 H1 ∧ ∃ xs, SqL K H1 a xs := by
  generalize hl : PV.frz l = q at r
  cases r with
  | @frz _ ns h =>
    cases hl
    have sq : ∀ H O, Kept O1 H1 O H → SqL K H a (ns.map V.int) := fun H O k => by
      rcases h with ⟨⟨o, h⟩, n⟩ | h
      · exact .inl (.inr ⟨o, (k _ _ h n).1⟩)
      · exact h _
    refine ⟨⟨fun i H O k hi => ?_, fun i H O k hi => ⟨_, sq H O k, by simpa using hi⟩, fun i H O x H' p k _ hp hy => ?_⟩, _, sq _ _ (Kept.refl _ _)⟩
    · rw [List.length_map] at hi
      exact ⟨_, .int ns[i], sq H O k, by rw [List.getElem?_map, List.getElem?_eq_getElem hi]; rfl⟩
    · obtain ⟨rfl, hx⟩ := hy
      have hx := hx _ (sq _ O k)
      rw [List.getElem?_map] at hp hx
      cases hn : ns[i]? with
      | none => rw [hn] at hp; cases hp
      | some n =>
        rw [hn] at hp hx
        cases hp; cases hx
        exact ⟨Same.refl _, .int n⟩
  | _ => cases hl
theorem tup_it {H1 : Hp} {O1 : Addr → Prop} {a : Addr} {l : List PV} (r : Rep K H1 O1 (.ref a) (.tup l)) : ItOk K (Itt K a) l O1 H1 ∧ ∃ xs, SqT K H1 a xs := by
  cases r with
  | @tup _ vs _ h r =>
    have sq : ∀ H O, Kept O1 H1 O H → SqT K H a vs := fun H O k => by
      rcases h with ⟨h, n⟩ | h
      · exact .inl (.inl (k _ _ h n).1)
      · exact .inr h
    refine ⟨⟨fun i H O k hi => ?_, fun i H O k hi => ⟨vs, sq H O k, by rw [r.length]; exact hi⟩, fun i H O x H' p k _ hp hy => ?_⟩, vs, sq _ _ (Kept.refl _ _)⟩
    · obtain ⟨v, hv, _⟩ := r.get (List.getElem?_eq_getElem hi)
      exact ⟨vs, v, sq H O k, hv⟩
    · obtain ⟨rfl, hx⟩ := hy
      obtain ⟨q, hq, rq⟩ := r.get' (hx vs (sq _ O k))
      rw [hp] at hq; cases hq
      exact ⟨Same.refl _, kept_reps k rq⟩
/-- a PI by either of two readings -/
theorem pi_or {w1 w2 : TI} (h1 : PI X tg e w1) (h2 : PI X tg e w2) : PI X tg e (fun σ H R => w1 σ H R ∨ w2 σ H R) := ⟨fun pins s σ H R I hw => by
  rcases hw with hw | hw
  · exact h1.run pins s σ H R I hw
  · exact h2.run pins s σ H R I hw⟩
def iS (f : Rho → R PV) : Rho → R (List PV) := fun ρ => (f ρ).bind asS
theorem ref_of {H1 : Hp} {O1 : Addr → Prop} {v : V} {p : PV} (r : Rep K H1 O1 v p) (h : (∃ l, p = .lst l) ∨ (∃ l, p = .frz l) ∨ ∃ l, p = .tup l) : ∃ a, v = .ref a := by
  rcases h with ⟨l, rfl⟩ | ⟨l, rfl⟩ | ⟨l, rfl⟩
  · cases r; exact ⟨_, rfl⟩
  · generalize hl : PV.frz l = q at r
    cases r with
    | frz h => exact ⟨_, rfl⟩
    | _ => cases hl
  · cases r; exact ⟨_, rfl⟩
/-- a list or a tuple, walked -/
theorem i_seq (he : EJ X W .s e f) : IJ X W tg e (iS f) := by
  refine pi_imp (pi_or (L2.pi_list he) (L2.pi_tup he)) fun σ H Q ⟨H0, O0, ρ, S, G⟩ => ?_
  revert G
  unfold iS
  cases hf : f ρ with
  | stuck => exact False.elim
  | exc c => exact fun G => .inl ⟨H0, O0, ρ, S, by rw [hf]; exact G⟩
  | ok p =>
    cases p with
    | lst l =>
      intro G
      refine .inl ⟨H0, O0, ρ, S, ?_⟩
      rw [hf]
      intro v H1 s1 r1
      obtain ⟨a, rfl⟩ := ref_of r1 (.inl ⟨l, rfl⟩)
      obtain ⟨h1, h2⟩ := lst_it r1
      exact ⟨a, rfl, h2, G _ _ s1 h1⟩
    | frz l =>
      intro G
      refine .inl ⟨H0, O0, ρ, S, ?_⟩
      rw [hf]
      intro v H1 s1 r1
      obtain ⟨a, rfl⟩ := ref_of r1 (.inr (.inl ⟨l, rfl⟩))
      obtain ⟨h1, h2⟩ := frz_it r1
      exact ⟨a, rfl, h2, G _ _ s1 h1⟩
    | tup l =>
      intro G
      refine .inr ⟨H0, O0, ρ, S, ?_⟩
      rw [hf]
      intro v H1 s1 r1
      obtain ⟨a, rfl⟩ := ref_of r1 (.inr (.inr ⟨l, rfl⟩))
      obtain ⟨h1, h2⟩ := tup_it r1
      exact ⟨a, rfl, h2, G _ _ s1 h1⟩
    | _ => exact False.elim
theorem rev_ix {α : Type} {l : List α} {i : Nat} (h : i < l.length) : l.reverse[i]? = l[l.length - 1 - i]? := List.getElem?_reverse h
theorem i_rev (mg : X.mg "reversed" = none) (hg : Gl X "reversed") (he : EJ X W .s e f) (hs : starEach [e] X.env = (false, eval e X.env) :: starEach [] X.env := by rfl) : IJ X W tg (.Call (.Name "reversed" p) [e] [] pos) (iRv f) := by
  refine pi_imp (RT.pi_revA hg mg he hs) fun σ H Q ⟨H0, O0, ρ, S, G⟩ => ⟨H0, O0, ρ, S, ?_⟩
  revert G
  unfold iRv
  cases hf : f ρ with
  | stuck => exact False.elim
  | exc c => exact fun G => G
  | ok p =>
    cases p with
    | lst l =>
      intro G v H1 s1 r1
      cases (show Rep X.K H1 (OO O0 σ ρ) v (.lst l) from r1) with
      | @lst a vs _ h n r =>
        refine ⟨a, vs, rfl, .inl ⟨.inl (.inl h), G _ _ s1 ⟨fun i H O k hi => ?_, fun i H O k hi => ?_, fun i H O x H' p k _ hp hy => ?_⟩⟩⟩
        · rw [List.length_reverse] at hi
          refine ⟨by rw [r.length]; exact hi, vs, vs[vs.length - 1 - i]'(by rw [r.length]; omega), .inl (.inl (k _ _ h n).1), List.getElem?_eq_getElem _⟩
        · rw [List.length_reverse] at hi
          show vs.length ≤ i
          rw [r.length]; exact hi
        · obtain ⟨rfl, hx⟩ := hy
          have hi : i < l.length := by
            have := (List.getElem?_eq_some_iff.mp hp).1
            simpa using this
          rw [rev_ix hi] at hp
          obtain ⟨q, hq, rq⟩ := r.get' (hx vs (.inl (.inl (k _ _ h n).1)))
          rw [r.length] at hq
          rw [hp] at hq; cases hq
          exact ⟨Same.refl _, kept_reps k rq⟩
    | tup l =>
      intro G v H1 s1 r1
      cases (show Rep X.K H1 (OO O0 σ ρ) v (.tup l) from r1) with
      | @tup a vs _ h r =>
        have sq : ∀ H O, Kept (OO O0 σ ρ) H1 O H → SqT X.K H a vs := fun H O k => by
          rcases h with ⟨h, n⟩ | h
          · exact .inl (.inl (k _ _ h n).1)
          · exact .inr h
        refine ⟨a, vs, rfl, .inr ⟨sq _ _ (Kept.refl _ _), G _ _ s1 ⟨fun i H O k hi => ?_, fun i H O k hi => ?_, fun i H O x H' p k _ hp hy => ?_⟩⟩⟩
        · rw [List.length_reverse] at hi
          refine ⟨by rw [r.length]; exact hi, vs, vs[vs.length - 1 - i]'(by rw [r.length]; omega), sq H O k, List.getElem?_eq_getElem _⟩
        · rw [List.length_reverse] at hi
          show vs.length ≤ i
          rw [r.length]; exact hi
        · obtain ⟨rfl, hx⟩ := hy
          have hi : i < l.length := by
            have := (List.getElem?_eq_some_iff.mp hp).1
            simpa using this
          rw [rev_ix hi] at hp
          obtain ⟨q, hq, rq⟩ := r.get' (hx vs (sq _ O k))
          rw [r.length] at hq
          rw [hp] at hq; cases hq
          exact ⟨Same.refl _, kept_reps k rq⟩
    | frz l =>
      intro G v H1 s1 r1
      obtain ⟨a, rfl⟩ := ref_of r1 (.inr (.inl ⟨l, rfl⟩))
      generalize hl : PV.frz l = q at r1
      cases (show Rep X.K H1 (OO O0 σ ρ) (.ref a) q from r1) with
      | @frz a ns h =>
        cases hl
        have sq : ∀ H O, Kept (OO O0 σ ρ) H1 O H → SqL X.K H a (ns.map V.int) := fun H O k => by
          rcases h with ⟨⟨o, h⟩, n⟩ | h
          · exact .inl (.inr ⟨o, (k _ _ h n).1⟩)
          · exact h _
        refine ⟨a, _, rfl, .inl ⟨sq _ _ (Kept.refl _ _), G _ _ s1 ⟨fun i H O k hi => ?_, fun i H O k hi => ?_, fun i H O x H' p k _ hp hy => ?_⟩⟩⟩
        · rw [List.length_reverse, List.length_map] at hi
          refine ⟨by rw [List.length_map]; exact hi, _, (ns.map V.int)[(ns.map V.int).length - 1 - i]'(by rw [List.length_map]; omega), sq H O k, List.getElem?_eq_getElem _⟩
        · rw [List.length_reverse, List.length_map] at hi
          show (ns.map V.int).length ≤ i
          rw [List.length_map]; exact hi
        · obtain ⟨rfl, hx⟩ := hy
          have hi : i < (ns.map PV.int).length := by
            have := (List.getElem?_eq_some_iff.mp hp).1
            simpa using this
          rw [rev_ix hi] at hp
          have hx := hx _ (sq _ O k)
          rw [List.length_map] at hx hp
          rw [List.getElem?_map] at hp hx
          cases hn : ns[ns.length - 1 - i]? with
          | none => rw [hn] at hp; cases hp
          | some n =>
            rw [hn] at hp hx
            cases hp; cases hx
            exact ⟨Same.refl _, .int n⟩
      | _ => cases hl
    | _ => exact False.elim
/-- lo, lo + 1, .. -/
def rngL (lo : Int) (n : Nat) : List PV := (List.range n).map fun (i : Nat) => PV.int (lo + i)
theorem rngL_len (lo : Int) (n : Nat) : (rngL lo n).length = n := by unfold rngL; rw [List.length_map, List.length_range]
theorem rng_it (lo : Int) (n : Nat) (O1 : Addr → Prop) (H1 : Hp) : ItOk K (Itr lo n) (rngL lo n) O1 H1 := by
  refine ⟨fun i H O k hi => by rw [rngL_len] at hi; exact hi, fun i H O k hi => by rw [rngL_len] at hi; exact hi, fun i H O x H' p k _ hp hy => ?_⟩
  obtain ⟨rfl, rfl⟩ := hy
  unfold rngL at hp
  rw [List.getElem?_map] at hp
  cases hn : (List.range n)[i]? with
  | none => rw [hn] at hp; cases hp
  | some j =>
    rw [hn] at hp
    obtain ⟨h1, h2⟩ := List.getElem?_eq_some_iff.mp hn
    rw [List.getElem_range] at h2
    cases hp
    rw [h2]
    exact ⟨Same.refl _, .int _⟩
def inR (i : Int) : Bool := decide (-(2 ^ 62) ≤ i) && decide (i < 2 ^ 62)
theorem inR_iff {i : Int} : inR i = true ↔ -(2 ^ 62) ≤ i ∧ i < 2 ^ 62 := by unfold inR; rw [Bool.and_eq_true, decide_eq_true_eq, decide_eq_true_eq]
def rng1 : List PV → R (List PV)
  | [.int j] => if inR j = true then .ok (rngL 0 j.toNat) else .stuck
  | _ => .stuck
def rng2 : List PV → R (List PV)
  | [.int i, .int j] => .ok (rngL i (j - i).toNat)
  | _ => .stuck
def iR (g : List PV → R (List PV)) (f : Rho → R (List PV)) : Rho → R (List PV) := fun ρ => (f ρ).bind g
theorem i_rng1 (mg : X.mg "range" = none) (hg : Gl X "range") (ha : AJ X W .t [e] fA) (hs : starEach [e] X.env = [(false, eval e X.env)] := by rfl) : IJ X W tg (.Call (.Name "range" p) [e] [] pos) (iR rng1 fA) := by
  refine pi_imp (pi_range1 hg mg ha hs) fun σ H Q ⟨H0, O0, ρ, S, G⟩ => ⟨H0, O0, ρ, S, ?_⟩
  revert G
  unfold iR
  cases fA ρ with
  | stuck => exact False.elim
  | exc c => exact fun G => G
  | ok ps =>
    intro G vs H1 s1 r1
    rw [R.bind_ok] at G
    unfold rng1 at G
    split at G
    · split at G
      · rename_i hz
        obtain ⟨v, rfl, r2⟩ := pr1 r1
        rw [rt_int r2]
        obtain ⟨z1, z2⟩ := inR_iff.mp hz
        exact ⟨_, rfl, z1, z2, G _ _ s1 (rng_it _ _ _ _)⟩
      · exact G.elim
    · exact G.elim
/-- a range of any numbers, walked by the iterator for great ones -/
theorem turn_long {P : Program} {w : World} {K : PySem.W.Frag} {tg : Expr} (z : Addr) (lo : Int) (n : Nat) : Turn P w K tg (Itr lo n) [z] z (fun j g => IsLongIter g z (lo + (j : Nat) * 1) ((n : Int) - (j : Nat)) 1) := by
  have here : z ∈ [z] := List.mem_singleton.mpr rfl
  refine ⟨here, fun j g hg b hb => ?_, fun j g g' hg k => k z here _ hg, ?_, ?_, fun _ _ _ _ _ hg q => wpAny_pyIter_longiter hg q⟩
  · cases List.mem_singleton.mp hb
    exact ⟨_, hg, fun v e => nomatch e⟩
  · rintro X rfl rfl rfl calm j pins u σ H E inv fresh hg lt
    have fr := fresh z here
    refine (Walks.longrange (prog := X.prog) (w := X.w) (inv.ok.hd calm) z lo 1 n).item j u _ _ lt hg fun v g tk hv hg' same => ?_
    obtain ⟨t, rfl⟩ := hv
    have inv' : Inv X pins σ H { u with heap := g, toks := tk } := inv.turned (fun b o hb e => same b o (fun hm => hb (List.mem_singleton.mp hm)) e) fr.1 fr.2.1 fr.2.2.2.1 fr.2.2.2.2.1 fr.2.2.2.2.2
    exact ⟨_, rfl, go_of (s := { u with heap := g, toks := tk }) (n := "longrange_iterator") hg' rfl rfl (by decide) ⟨.int (lo + j), H, inv', ⟨t, by rw [Int.mul_one]⟩, ⟨rfl, rfl⟩, hg', fun b hb => (fresh b hb).1⟩⟩
  · rintro X rfl rfl rfl calm j pins u σ H E inv fresh hg le
    have fr := fresh z here
    have le : n ≤ j := le
    exact wpAny_pyNext_long_end (inv.ok.hd calm) hg (by omega) fun g eb => ⟨rfl, inv.turned (t' := u.toks) (fun b o hb e => eb b o hb e) fr.1 fr.2.1 fr.2.2.2.1 fr.2.2.2.2.1 fr.2.2.2.2.2⟩
theorem range_any {pins : List (Addr × Obj)} {σ : St} {H : Hp} {u : Shared} {R : It → Hp → Prop} {E : Value → Shared → Prop} {i j : Int} {t1 t2 t3 : Tok} {tk : Nat} (inv : Inv X pins σ H u) (q : R (Itr i (j - i).toNat) H) :
    wpAny (model X.prog X.w) X.A (pyIter (.ref u.heap.objs.size)) (PIE X pins σ tg R) E { u with heap := u.heap.push { cls := .type "range", data := .fields #[.int i t1, .int j t2, .int 1 t3] }, toks := tk } := by
  have inv' : Inv X pins σ H { u with heap := u.heap.push { cls := .type "range", data := .fields #[.int i t1, .int j t2, .int 1 t3] }, toks := tk } := inv.kept fun b o e => Heap.get?_push_of_some _ e
  have many : (((j - i).toNat : Nat) : Int) - ((0 : Nat) : Int) = Builtin.Range.rangeSize i j 1 := by rw [rangeSize_one]; split <;> omega
  have first : i + ((0 : Nat) : Int) * 1 = i := by simp
  cases sm : Builtin.Range.small i j 1 with
  | true =>
    refine wpAny_pyIter_range (IsRange.new ..) sm (pi_one inv' _ (turn_range _ i (j - i).toNat) ?_ q)
    show IsRangeIter _ _ (i + ((0 : Nat) : Int) * 1) ((((j - i).toNat : Nat) : Int) - ((0 : Nat) : Int)) 1
    rw [first, many]; exact Heap.get?_push_size _ rfl
  | false =>
    refine wpAny_pyIter_longrange (IsRange.new ..) sm (pi_one inv' _ (turn_long _ i (j - i).toNat) ?_ q)
    show IsLongIter _ _ (i + ((0 : Nat) : Int) * 1) ((((j - i).toNat : Nat) : Int) - ((0 : Nat) : Int)) 1
    rw [first, many]; exact Heap.get?_push_size _ rfl
def iRngA (ta : TA) : TI := fun σ H R => ta σ H fun vs H' => ∃ i j : Int, vs = [.int i, .int j] ∧ R (Itr i (j - i).toNat) H'
theorem pi_rangeA {a b : Expr} {ta : TA} {p pos : Pos} (hg : Gl X "range") (hm : X.mg "range" = none) (ha : PA X [a, b] ta) (h1 : starEach [a, b] X.env = [(false, eval a X.env), (false, eval b X.env)] := by rfl) (h2 : starEach [b] X.env = [(false, eval b X.env)] := by rfl) :
    PI X tg (.Call (.Name "range" p) [a, b] [] pos) (iRngA ta) := by
  refine ⟨fun pins u σ H R inv hw => Call_ (ld_blt inv hg hm boot_range (PyProof.Rows.callWith_type1 (thn (ha.run pos pins u σ H _ inv hw) ?_) (by rw [h1, h2]) (by rw [h2]; rfl)))⟩
  rintro us u1 ⟨vs, H1, inv1, rel, i, j, rfl, q⟩
  cases rel with
  | cons ri rel => cases rel with
    | cons rj rel =>
      cases rel
      obtain ⟨t1, rfl⟩ := ri
      obtain ⟨t2, rfl⟩ := rj
      exact call_range_2 (range_any inv1 q)
theorem i_rng2 (mg : X.mg "range" = none) (hg : Gl X "range") (ha : AJ X W .t [e, e'] fA) (hs : starEach [e, e'] X.env = [(false, eval e X.env), (false, eval e' X.env)] := by rfl) (hs2 : starEach [e'] X.env = [(false, eval e' X.env)] := by rfl) : IJ X W tg (.Call (.Name "range" p) [e, e'] [] pos) (iR rng2 fA) := by
  refine pi_imp (pi_rangeA hg mg ha hs hs2) fun σ H Q ⟨H0, O0, ρ, S, G⟩ => ⟨H0, O0, ρ, S, ?_⟩
  revert G
  unfold iR
  cases fA ρ with
  | stuck => exact False.elim
  | exc c => exact fun G => G
  | ok ps =>
    intro G vs H1 s1 r1
    rw [R.bind_ok] at G
    unfold rng2 at G
    split at G
    · obtain ⟨v, w, rfl, r2, r3⟩ := pr2 r1
      rw [rt_int r2, rt_int r3]
      exact ⟨_, _, rfl, G _ _ s1 (rng_it _ _ _ _)⟩
    · exact G.elim
end
def GotG (K : PySem.W.Frag) (H0 : Hp) (O0 : Addr → Prop) (H : Hp) (ts : List Nat) (σ : St) (ρ : Rho) (Q : St → Hp → Prop) : Option Rho → Prop
  | some ρ' => ∀ σ', StR K H0 O0 H σ' ρ' → (∀ a, OO O0 σ' ρ' a → OO O0 σ ρ a) → σ'.length = σ.length → (∀ (i : Nat), i ∉ ts → σ'[i]? = σ[i]? ∧ ρ'[i]? = ρ[i]?) → Q σ' H
  | none => False
def tG (K : PySem.W.Frag) (ts : List Nat) (h : PV → Rho → Option Rho) : TG := fun v σ H Q => ∃ H0 O0 ρ p, StR K H0 O0 H σ ρ ∧ Rep K H (OO O0 σ ρ) v p ∧ GotG K H0 O0 H ts σ ρ Q (h p ρ)
abbrev GJ (X : Cx) (tg : Expr) (ts : List Nat) (h : PV → Rho → Option Rho) : Prop := PG X tg (tG X.K ts h)
theorem pg_imp {X : Cx} {tg : Expr} {t t' : TG} (h : PG X tg t) (q : ∀ v σ H Q, t' v σ H Q → t v σ H Q) : PG X tg t' := ⟨fun pins s σ H v u Q I r hw => h.run pins s σ H v u Q I r (q v σ H Q hw)⟩
theorem pgs_imp {X : Cx} {tg : List Expr} {t t' : TGs} (h : PGs X tg t) (q : ∀ v σ H Q, t' v σ H Q → t v σ H Q) : PGs X tg t' := ⟨fun pins s σ H v u Q I r hw => h.run pins s σ H v u Q I r (q v σ H Q hw)⟩
def gN (i : Nat) : PV → Rho → Option Rho := fun p ρ => some (ρ.set i (.val p))
theorem g_name {X : Cx} {tg : Expr} {i : Nat} (h : PG X tg (gName i)) : GJ X tg [i] (gN i) := by
  refine pg_imp h fun v σ H Q ⟨H0, O0, ρ, p, S, r, G⟩ => ?_
  exact G _ (S.set (s := .val p) (fun _ z => nomatch z) (fun q z => by cases z; exact ⟨v, rfl, r⟩)) (fun a z => OO.set_val (s := .val p) (fun _ z => nomatch z) z) (List.length_set ..) fun j hj => have n : i ≠ j := fun e => hj (by rw [e]; exact List.mem_cons_self); ⟨List.getElem?_set_ne n, List.getElem?_set_ne n⟩
/-- several targets -/
def tGs (K : PySem.W.Frag) (ts : List Nat) (h : List PV → Rho → Option Rho) : TGs := fun vs σ H Q => ∃ H0 O0 ρ ps, StR K H0 O0 H σ ρ ∧ Reps K H (OO O0 σ ρ) vs ps ∧ GotG K H0 O0 H ts σ ρ Q (h ps ρ)
abbrev GJs (X : Cx) (tg : List Expr) (ts : List Nat) (h : List PV → Rho → Option Rho) : Prop := PGs X tg (tGs X.K ts h)
def gsNil : List PV → Rho → Option Rho
  | [], ρ => some ρ
  | _, _ => none
def gsCons (g : PV → Rho → Option Rho) (h : List PV → Rho → Option Rho) : List PV → Rho → Option Rho
  | p :: ps, ρ => (g p ρ).bind (h ps)
  | [], _ => none
section
variable {X : Cx} {e : Expr} {es : List Expr} {g : PV → Rho → Option Rho} {h : List PV → Rho → Option Rho} {pos : Pos} {ts us : List Nat}
theorem gs_nil : GJs X [] [] gsNil := by
  refine pgs_imp pgs_nil fun vs σ H Q ⟨H0, O0, ρ, ps, S, r, G⟩ => ?_
  cases ps with
  | nil => cases r; exact ⟨rfl, G σ S (fun _ z => z) rfl fun _ _ => ⟨rfl, rfl⟩⟩
  | cons p ps => exact G.elim
theorem gs_cons (h1 : GJ X e ts g) (h2 : GJs X es us h) (hs : (assignEach (e :: es) X.env).map (·.2) = assign e X.env :: (assignEach es X.env).map (·.2) := by rfl) : GJs X (e :: es) (ts ++ us) (gsCons g h) := by
  refine pgs_imp (pgs_cons h1 h2 hs) fun vs σ H Q ⟨H0, O0, ρ, ps, S, r, G⟩ => ?_
  cases r with
  | nil => exact G.elim
  | @cons v vs p ps r1 r2 =>
    refine ⟨v, vs, rfl, H0, O0, ρ, p, S, r1, ?_⟩
    have G' : GotG X.K H0 O0 H (ts ++ us) σ ρ Q ((g p ρ).bind (h ps)) := G
    revert G'
    cases g p ρ with
    | none => exact False.elim
    | some ρ1 =>
      intro G' σ1 S1 l1 e1 k1
      exact ⟨H0, O0, ρ1, ps, S1, r2.less l1, by
        revert G'
        rw [Option.bind_some]
        cases h ps ρ1 with
        | none => exact fun G => G
        | some ρ2 => exact fun G' σ2 S2 l2 e2 k2 => G' σ2 S2 (fun a z => l1 a (l2 a z)) (e2.trans e1) fun i hi => have a := k2 i fun z => hi (List.mem_append_right _ z); have b := k1 i fun z => hi (List.mem_append_left _ z); ⟨a.1.trans b.1, a.2.trans b.2⟩⟩
theorem draw_l {prog : Program} {w : World} {A : Around} {E : Value → Shared → Prop} {it l : Addr} {xs : Array Value} (ne : l ≠ it) : ∀ (k j : Nat) (u : Shared) (R : List Value → Shared → Prop), u.heap.IsListIter it l j → u.heap.IsList l xs → j + k ≤ xs.size →
    (∀ g, g.IsListIter it l (j + k) → Heap.SameBut it u.heap g → R ((xs.toList.drop j).take k) { u with heap := g }) → wpAny (model prog w) A (draw (.ref it) k) R E u
  | 0, j, u, R, _, _, _, q => wpAny_pure (by simpa using q u.heap (by simpa) (Heap.SameBut.refl ..))
  | k + 1, j, u, R, hi, hl, hs, q => by
    have lt : j < xs.size := by omega
    show wpAny (model prog w) A (pyNext (.ref it) >>= _) R E u
    refine wpAny_bind (wpAny_pyNext_list_item hi hl (x := xs[j]) (by simp [lt]) fun g1 i1 b1 => ?_)
    refine wpAny_bind (wpAny_holding (draw_l ne k (j + 1) _ _ i1 (hl.extBut b1.extBut ne) (by omega) fun g2 i2 b2 => wpAny_pure ?_))
    have z := q g2 (by rw [show j + (k + 1) = j + 1 + k by omega]; exact i2) (b1.trans b2)
    rw [show xs.toList.drop j = xs[j] :: xs.toList.drop (j + 1) by simp [List.drop_eq_getElem_cons, lt], List.take_succ_cons] at z
    exact z
theorem unp_l {prog : Program} {w : World} {A : Around} {E : Value → Shared → Prop} {u : Shared} {l : Addr} {xs : Array Value} {R : List Value → Shared → Prop} (hh : A.handled = none) (hl : u.heap.IsList l xs)
    (q : ∀ g, Heap.ExtBut u.heap.objs.size u.heap g → R xs.toList { u with heap := g }) : wpAny (model prog w) A (unpackItems (.ref l) xs.size none) R E u := by
  have ne : l ≠ u.heap.objs.size := by obtain ⟨o, ho, _⟩ := hl; exact Nat.ne_of_lt (Heap.lt_size ho)
  unfold unpackItems
  refine wpAny_bind ?_
  unfold notIterableAtAll
  refine wpAny_bind (wpAny_specialOf hl.typeIs slot_list_iter.lookup (wpAny_pure ?_))
  simp only [Bool.false_eq_true, if_false]
  refine wpAny_bind (wpAny_holding (wpAny_pyIter_list hl ?_))
  have h1 := hl.push { cls := .type "list_iterator", data := .fields #[.ref l, .int 0 0] }
  refine wpAny_bind (wpAny_holding (draw_l ne xs.size 0 _ _ ⟨_, Heap.get?_push_size _ rfl, rfl, rfl⟩ h1 (by omega) fun g1 i1 b1 => ?_))
  rw [show List.take xs.size (List.drop 0 xs.toList) = xs.toList by rw [List.drop_zero]; exact List.take_of_length_le (by simp)]
  rw [if_neg (by simp)]
  refine wpAny_bind (wpAny_holding (wpAny_pyNext_list_end hh i1 (h1.extBut b1.extBut ne) (by simp) fun g2 e2 => ?_))
  simp only [Option.isSome_none, Bool.false_eq_true, if_false]
  exact wpAny_pure (q g2 fun b o hb e => e2 b o hb (b1.extBut b o hb (Heap.get?_push_of_some _ e)))
def gSq (K : PySem.W.Frag) (n : Nat) (t : TGs) : TG := fun v σ H Q => ∃ a xs, v = .ref a ∧ (SqT K H a xs ∨ SqL K H a xs) ∧ xs.length = n ∧ t xs σ H Q
theorem pg_sq {X : Cx} {es : List Expr} {k n : Nat} {pos : Pos} {t : TGs} (hc : X.calm = true) (h : PGs X es t) (hn : (assignEach es X.env).length = n := by rfl) (hst : (assignEach es X.env).findIdx? (·.1) = none := by rfl) : PG X (.Tuple es k pos) (gSq X.K n t) := by
  refine ⟨fun pins s σ H v u Q I r g => ?_⟩
  obtain ⟨a, xs, e, hq | hq, hl, hw⟩ := g
  · exact (pg_tup hc h hn hst).run pins s σ H v u Q I r ⟨a, xs, e, hq, hl, hw⟩
  · subst e
    cases r
    obtain ⟨its, rv, pl, hz⟩ := I.list hq
    rw [assign_Tuple]
    refine wpAny_bind (wpAny_standAt ?_)
    unfold unpack
    have hsz : (assignEach es X.env).length = its.toArray.size := by simp [hn, ← hl, rv.length]
    rw [hsz, hst]
    refine wpAny_bind (wpAny_holding (unp_l (I.ok.hd hc) pl.isList fun g eb => ?_))
    have J : Inv X pins σ H { s with heap := g } := I.kept (t' := s.toks) fun b o e => eb b o (Nat.ne_of_lt (Heap.lt_size e)) e
    exact h.run pins _ σ H xs _ Q J (by simpa using rv) hw
def gT (h : List PV → Rho → Option Rho) : PV → Rho → Option Rho
  | .tup ps, ρ => h ps ρ
  | .lst ps, ρ => h ps ρ
  | _, _ => none
theorem g_tup {k n : Nat} (hc : X.calm = true) (h1 : GJs X es ts h) (hl : ∀ ps ρ ρ', h ps ρ = some ρ' → ps.length = n) (hn : (assignEach es X.env).length = n := by rfl) (hst : (assignEach es X.env).findIdx? (·.1) = none := by rfl) : GJ X (.Tuple es k pos) ts (gT h) := by
  refine pg_imp (pg_sq hc h1 hn hst) fun v σ H Q ⟨H0, O0, ρ, p, S, r, G⟩ => ?_
  have len : ∀ (ps : List PV), GotG X.K H0 O0 H ts σ ρ Q (h ps ρ) → ps.length = n := fun ps G' => by
    revert G'
    cases hh : h ps ρ with
    | none => exact False.elim
    | some ρ' => exact fun _ => hl ps ρ ρ' hh
  cases p with
  | tup ps =>
    cases r with
    | @tup a vs _ ha r => exact ⟨a, vs, rfl, .inl (sqT_of ha), by rw [r.length]; exact len ps G, H0, O0, ρ, ps, S, r, G⟩
  | lst ps =>
    cases r with
    | @lst a vs _ ha hn r => exact ⟨a, vs, rfl, .inr (.inl (.inl ha)), by rw [r.length]; exact len ps G, H0, O0, ρ, ps, S, r, G⟩
  | _ => exact G.elim
theorem gs_len : ∀ {n : Nat} {g : PV → Rho → Option Rho} {h : List PV → Rho → Option Rho}, (∀ ps ρ ρ', h ps ρ = some ρ' → ps.length = n) → ∀ ps ρ ρ', gsCons g h ps ρ = some ρ' → ps.length = n + 1 := by
  intro n g h hl ps ρ ρ' e
  cases ps with
  | nil => cases e
  | cons p ps =>
    have e' : (g p ρ).bind (h ps) = some ρ' := e
    cases hg : g p ρ with
    | none => rw [hg] at e'; cases e'
    | some ρ1 =>
      rw [hg, Option.bind_some] at e'
      rw [List.length_cons, hl ps ρ1 ρ' e']
theorem gs_len0 : ∀ ps ρ ρ', gsNil ps ρ = some ρ' → ps.length = 0 := by
  intro ps ρ ρ' e
  cases ps with
  | nil => rfl
  | cons p ps => cases e
end
end PL
set_option Elab.async false
set_option linter.all false
set_option maxRecDepth 100000
set_option autoImplicit false
namespace PL
open PySem PySem.Spec L2
open PyProof.Rows hiding St
def wipeR (ρ : Rho) : List Nat → Rho
  | [] => ρ
  | v :: vs => (wipeR ρ vs).set v .un
def notOwn (ρ : Rho) (v : Nat) : Bool := match ρ[v]? with
  | some (.own _) => false
  | _ => true
theorem wipe_get (σ : St) : ∀ (vs : List Nat) (i : Nat), (wipe σ vs)[i]? = if i ∈ vs then (if i < σ.length then some none else none) else σ[i]?
  | [], i => by simp [wipe]
  | v :: vs, i => by
    unfold wipe
    by_cases e : v = i
    · subst e
      rw [if_pos List.mem_cons_self]
      by_cases h : v < σ.length
      · rw [if_pos h, List.getElem?_set_self (by rw [wipe_length]; exact h)]
      · rw [if_neg h, List.getElem?_eq_none (by rw [List.length_set, wipe_length]; omega)]
    · rw [List.getElem?_set_ne e, wipe_get σ vs i]
      have : i ∈ v :: vs ↔ i ∈ vs := by
        rw [List.mem_cons]
        exact ⟨fun z => z.elim (fun z => absurd z.symm e) id, .inr⟩
      simp only [this]
theorem wipe_back {σ σ2 : St} {vs : List Nat} (hl : σ2.length = (wipe σ vs).length) (h : ∀ (i : Nat), i ∉ vs → σ2[i]? = (wipe σ vs)[i]?) : wipe σ2 vs = wipe σ vs := by
  refine List.ext_getElem? fun i => ?_
  rw [wipe_get σ2 vs i]
  by_cases hi : i ∈ vs
  · rw [if_pos hi, hl, wipe_length, wipe_get σ vs i, if_pos hi]
  · rw [if_neg hi, h i hi]
theorem wipe_st {K : PySem.W.Frag} {H0 H : Hp} {O0 : Addr → Prop} {σ : St} {ρ : Rho} (S : StR K H0 O0 H σ ρ) : ∀ vs : List Nat, StR K H0 O0 H (wipe σ vs) (wipeR ρ vs) ∧ ∀ a, OO O0 (wipe σ vs) (wipeR ρ vs) a → OO O0 σ ρ a
  | [] => ⟨S, fun _ z => z⟩
  | v :: vs => by
    obtain ⟨S1, l1⟩ := wipe_st S vs
    exact ⟨S1.set (s := .un) (fun _ z => nomatch z) (fun _ z => nomatch z), fun a z => l1 a (OO.set_val (s := .un) (fun _ z => nomatch z) z)⟩
theorem wipeR_get (ρ : Rho) : ∀ (vs : List Nat) (i : Nat), i ∉ vs → (wipeR ρ vs)[i]? = ρ[i]?
  | [], i, _ => rfl
  | v :: vs, i, h => by
    rw [List.mem_cons, not_or] at h
    unfold wipeR
    rw [List.getElem?_set_ne (Ne.symm h.1), wipeR_get ρ vs i h.2]
theorem wipe_oo {O0 : Addr → Prop} {σ : St} {ρ : Rho} {vs : List Nat} (hn : vs.all (notOwn ρ) = true) {a : Addr} (h : OO O0 σ ρ a) : OO O0 (wipe σ vs) (wipeR ρ vs) a := by
  rcases h with h | ⟨i, ps, h1, h2⟩
  · exact .inl h
  · have hi : i ∉ vs := fun hi => by
      have := List.all_eq_true.mp hn i hi
      unfold notOwn at this
      rw [h1] at this
      cases this
    exact .inr ⟨i, ps, by rw [wipeR_get ρ vs i hi]; exact h1, by rw [wipe_get, if_neg hi]; exact h2⟩
/-- what the turns make of the items -/
def lcGo (tgt : PV → Rho → Option Rho) (test : Rho → R Bool) (elt : Rho → R PV) (ρ : Rho) : List PV → R (List PV)
  | [] => .ok []
  | p :: ps => match tgt p ρ with
    | none => .stuck
    | some ρ1 => match test ρ1 with
      | .ok true => (match elt ρ1 with
        | .ok q => (match lcGo tgt test elt ρ ps with
          | .ok qs => .ok (q :: qs)
          | _ => .stuck)
        | _ => .stuck)
      | .ok false => lcGo tgt test elt ρ ps
      | _ => .stuck
def eLc (vs : List Nat) (it : Rho → R (List PV)) (tgt : PV → Rho → Option Rho) (test : Rho → R Bool) (elt : Rho → R PV) : Rho → R PV := fun ρ =>
  if vs.all (notOwn ρ) = true then (it ρ).bind fun items => if items.length ≤ sizeLine then (match lcGo tgt test elt (wipeR ρ vs) items with
    | .ok qs => .ok (.lst qs)
    | _ => .stuck) else .stuck
  else .stuck
abbrev CJ (X : Cx) (W : WX) (ifs : List Expr) (f : Rho → R Bool) : Prop := PTs X ifs (tT X.K X.mg W f)
def cYes : Rho → R Bool := fun _ => .ok true
abbrev WF : WX := fun _ _ _ _ => False
section
variable {X : Cx} {W : WX} {e tg it : Expr} {pos : Pos} {f g h : Rho → R PV}
theorem c_nil : CJ X W [] cYes := by
  refine ⟨fun pins s σ H Q I ⟨H0, O0, ρ, S, G⟩ => pts_nil.run pins s σ H Q I (G H (Same.refl H))⟩
theorem bump {K : PySem.W.Frag} {H0 H : Hp} {O0 : Addr → Prop} {σ : St} {ρ : Rho} {D : Addr} {o : HO} (S : StR K H0 O0 H σ ρ) (hD : O0 D) (h0 : H0 D = none) : StR K H0 O0 (upd H D o) σ ρ := by
  have k : ∀ a u, H a = some u → ¬ OO O0 σ ρ a → upd H D o a = some u ∧ ¬ OO O0 σ ρ a := fun a u h n => ⟨by rw [upd_ne (fun z => n (by rw [z]; exact .inl hD))]; exact h, n⟩
  refine ⟨S.len, fun b x h => by rw [upd_ne (fun z => by rw [z, h0] at h; cases h)]; exact S.same b x h, fun a h => ?_, fun i ps h => ?_, S.dis, fun i p h => ?_, S.exs⟩
  · by_cases e : a = D
    · rw [e, upd_same]; exact fun z => nomatch z
    · rw [upd_ne e]; exact S.all0 a h
  · obtain ⟨a, vs, e1, e2, e3, e4, e5⟩ := S.own i ps h
    exact ⟨a, vs, e1, by rw [upd_ne (fun z => e4 (by rw [z]; exact hD))]; exact e2, e3, e4, e5.mono k⟩
  · obtain ⟨v, e1, e2⟩ := S.val i p h
    exact ⟨v, e1, e2.mono k⟩
/-- another address is forbidden: one that is new -/
theorem forbid {K : PySem.W.Frag} {H0 H : Hp} {O0 : Addr → Prop} {σ : St} {ρ : Rho} {D : Addr} {o : HO} (S : StR K H0 O0 H σ ρ) (hD : H D = none) : StR K H0 (fun b => O0 b ∨ b = D) (upd H D o) σ ρ := by
  have oo : ∀ a, OO (fun b => O0 b ∨ b = D) σ ρ a → OO O0 σ ρ a ∨ a = D := fun a z => by
    rcases z with (z | z) | z
    · exact .inl (.inl z)
    · exact .inr z
    · exact .inl (.inr z)
  have k : ∀ a u, H a = some u → ¬ OO O0 σ ρ a → upd H D o a = some u ∧ ¬ OO (fun b => O0 b ∨ b = D) σ ρ a := fun a u h n => ⟨same_new hD a u h, fun z => (oo a z).elim n (ne_of_none h hD)⟩
  refine ⟨S.len, fun b x h => same_new hD b x (S.same b x h), fun a h => ?_, fun i ps h => ?_, S.dis, fun i p h => ?_, S.exs⟩
  · rcases h with h | h
    · cases q : H a with
      | none => exact absurd q (S.all0 a h)
      | some u => rw [same_new hD a u q]; exact fun z => nomatch z
    · rw [h, upd_same]; exact fun z => nomatch z
  · obtain ⟨a, vs, e1, e2, e3, e4, e5⟩ := S.own i ps h
    exact ⟨a, vs, e1, same_new hD _ _ e2, e3, fun z => z.elim e4 (ne_of_none e2 hD), e5.mono k⟩
  · obtain ⟨v, e1, e2⟩ := S.val i p h
    exact ⟨v, e1, e2.mono k⟩
theorem lc_run {wi : Rho → R (List PV)} {tgt : PV → Rho → Option Rho} {test : Rho → R Bool} {elt : Rho → R PV} {vs ts : List Nat} (hts : ∀ i ∈ ts, i ∈ vs) {K : PySem.W.Frag} {mg : Str → Option Value} :
    ∀ σ H Q, tE K mg W .f (eLc vs wi tgt test elt) σ H Q → tLc (tI K mg W wi) (tG K ts tgt) (tT K mg WF test) (tE K mg WF .s elt) vs σ H Q := by
  intro σ H Q ⟨H0, O0, ρ, S, G⟩
  refine ⟨H0, O0, ρ, S, ?_⟩
  revert G
  unfold eLc
  split
  · rename_i hn
    cases wi ρ with
    | stuck => exact False.elim
    | exc c => exact fun G => G
    | ok items =>
      rw [R.bind_ok]
      split
      · rename_i hz
        intro G J H1 s1 ok D hD
        cases hq : lcGo tgt test elt (wipeR ρ vs) items with
        | stuck => rw [hq] at G; exact G.elim
        | exc c => rw [hq] at G; exact absurd G (fun G => by exact (show False from G))
        | ok qs =>
          rw [hq] at G
          have S1 := S.step s1
          obtain ⟨S2, l2⟩ := wipe_st S1 vs
          have hH0 : H0 D = none := S1.same.free hD
          have S3 : StR K H0 (fun b => O0 b ∨ b = D) (upd H1 D (.lst [])) (wipe σ vs) (wipeR ρ vs) := forbid S2 hD
          have OD : OO (fun b => O0 b ∨ b = D) (wipe σ vs) (wipeR ρ vs) D := .inl (.inr rfl)
          have oo : ∀ a, OO (fun b => O0 b ∨ b = D) (wipe σ vs) (wipeR ρ vs) a → OO O0 σ ρ a ∨ a = D := fun a z => by
            rcases z with (z | z) | z
            · exact .inl (.inl z)
            · exact .inr z
            · exact .inl (l2 a (.inr z))
          refine ⟨fun i m Hc => m = items.length - i ∧ i ≤ items.length ∧ Same H1 Hc ∧ StR K H0 (fun b => O0 b ∨ b = D) Hc (wipe σ vs) (wipeR ρ vs) ∧
              ∃ ws ps rs, Hc D = some (.lst ws) ∧ Reps K Hc (OO (fun b => O0 b ∨ b = D) (wipe σ vs) (wipeR ρ vs)) ws ps ∧ ps.length ≤ i ∧ lcGo tgt test elt (wipeR ρ vs) (items.drop i) = .ok rs ∧ qs = ps ++ rs,
            ⟨items.length, by simp, Nat.zero_le _, same_new hD, S3, [], [], qs, upd_same, .nil, Nat.zero_le _, by rw [List.drop_zero]; exact hq, rfl⟩, ?_⟩
          rintro i m Hc ⟨rfl, hi, sc, Sc, ws, ps, rs, hDc, rc, hpl, hgo, hqs⟩
          have kept : Kept (OO O0 σ ρ) H1 (OO (fun b => O0 b ∨ b = D) (wipe σ vs) (wipeR ρ vs)) Hc := fun a o h n => ⟨sc a o h, fun z => (oo a z).elim n (ne_of_none h hD)⟩
          have alloc : ∀ a, OO (fun b => O0 b ∨ b = D) (wipe σ vs) (wipeR ρ vs) a → Hc a ≠ none := fun a z => Sc.there z
          by_cases hlt : i < items.length
          · refine .inr ⟨ok.go i Hc _ kept hlt, _, fun H' n => ⟨items.length - (i + 1), by omega, rfl, hlt, n⟩, fun x Hy hy => ?_⟩
            have hg : items[i]? = some items[i] := List.getElem?_eq_getElem hlt
            obtain ⟨sy, ry⟩ := ok.yld i Hc _ x Hy _ kept alloc hg hy
            have hdr : items.drop i = items[i] :: items.drop (i + 1) := List.drop_eq_getElem_cons hlt
            rw [hdr] at hgo
            refine ⟨H0, _, wipeR ρ vs, items[i], Sc.step sy, ry, ?_⟩
            unfold lcGo at hgo
            cases ht : tgt items[i] (wipeR ρ vs) with
            | none => rw [ht] at hgo; cases hgo
            | some ρ1 =>
              rw [ht] at hgo
              intro σ2 Sg lg eg kg
              refine ⟨wipe_back eg fun j hj => (kg j fun z => hj (hts j z)).1, H0, _, ρ1, Sg, ?_⟩
              have hgo : (match test ρ1 with
                | .ok true => (match elt ρ1 with
                  | .ok q => (match lcGo tgt test elt (wipeR ρ vs) (items.drop (i + 1)) with
                    | .ok qs => .ok (q :: qs)
                    | _ => .stuck)
                  | _ => .stuck)
                | .ok false => lcGo tgt test elt (wipeR ρ vs) (items.drop (i + 1))
                | _ => .stuck) = (.ok rs : R (List PV)) := hgo
              cases hte : test ρ1 with
              | stuck => rw [hte] at hgo; cases hgo
              | exc c => rw [hte] at hgo; cases hgo
              | ok b =>
                rw [hte] at hgo
                intro H3 s3
                cases b with
                | false =>
                  rw [if_neg Bool.false_ne_true]
                  have s13 := (sc.trans sy).trans s3
                  exact ⟨s13, Sc.step (sy.trans s3), ws, ps, rs, (sy.trans s3) _ _ hDc, rc.same (sy.trans s3), by omega, hgo, hqs⟩
                | true =>
                  rw [if_pos rfl]
                  refine ⟨H0, _, ρ1, Sg.step s3, ?_⟩
                  have hgo : (match elt ρ1 with
                    | .ok q => (match lcGo tgt test elt (wipeR ρ vs) (items.drop (i + 1)) with
                      | .ok qs => .ok (q :: qs)
                      | _ => .stuck)
                    | _ => .stuck) = (.ok rs : R (List PV)) := hgo
                  cases hel : elt ρ1 with
                  | stuck => rw [hel] at hgo; cases hgo
                  | exc c => rw [hel] at hgo; cases hgo
                  | ok q =>
                    rw [hel] at hgo
                    have hgo : (match lcGo tgt test elt (wipeR ρ vs) (items.drop (i + 1)) with
                      | .ok qs => .ok (q :: qs)
                      | _ => .stuck) = (.ok rs : R (List PV)) := hgo
                    cases hre : lcGo tgt test elt (wipeR ρ vs) (items.drop (i + 1)) with
                    | stuck => rw [hre] at hgo; cases hgo
                    | exc c => rw [hre] at hgo; cases hgo
                    | ok rs' =>
                      rw [hre] at hgo
                      cases hgo
                      intro y H4 s4 r4
                      have s34 := (sy.trans s3).trans s4
                      have r4 : Rep K H4 (OO (fun b => O0 b ∨ b = D) σ2 ρ1) y q := r4
                      refine ⟨ws, s34 _ _ hDc, by rw [rc.length]; omega, ?_⟩
                      have nD : ∀ {b : Addr} {o : HO} {O : Addr → Prop}, O D → H4 b = some o → ¬ O b → upd H4 D (.lst (ws ++ [y])) b = some o ∧ ¬ O b := fun {b o O} hO h n => ⟨by rw [upd_ne (fun z => n (by rw [z]; exact hO))]; exact h, n⟩
                      refine ⟨fun b o h => ?_, bump (Sc.step s34) (.inr rfl) hH0, ws ++ [y], ps ++ [q], rs', upd_same, ?_, by rw [List.length_append]; simp; omega, rfl, by rw [hqs, List.append_assoc]; rfl⟩
                      · rw [upd_ne (ne_of_none h hD)]; exact s34 _ _ (sc _ _ h)
                      · refine Reps.append ((rc.same s34).mono fun b o h n => nD OD h n) (.cons ?_ .nil)
                        refine r4.mono fun b o h n => ?_
                        have hb : b ≠ D := fun z => n (by rw [z]; exact .inl (.inr rfl))
                        refine ⟨by rw [upd_ne hb]; exact h, fun z => ?_⟩
                        rcases z with z | ⟨j, us, z1, z2⟩
                        · exact n (.inl z)
                        · have hj : j ∉ vs := fun hj => by
                            have z3 : (wipeR ρ vs)[j]? = some (.own us) := z1
                            have z4 : (wipe σ vs)[j]? = some (some (.ref b)) := z2
                            rw [wipe_get, if_pos hj] at z4
                            split at z4 <;> cases z4
                          have kj := kg j fun z => hj (hts j z)
                          exact n (.inr ⟨j, us, by rw [kj.2]; exact z1, by rw [kj.1]; exact z2⟩)
          · have e : i = items.length := by omega
            subst e
            rw [List.drop_length] at hgo
            cases hgo
            rw [List.append_nil] at hqs
            subst hqs
            refine .inl ⟨ok.stop _ Hc _ kept (Nat.le_refl _), G _ _ (s1.trans sc) ⟨D, ws, _, rfl, rfl, s1.free hD, hDc, rc.less fun a z => ?_⟩⟩
            rcases z with z | z
            · rcases wipe_oo hn z with z | z
              · exact .inl (.inl z)
              · exact .inr z
            · rw [z]; exact OD
      · exact False.elim
  · exact False.elim
variable {ifs : List Expr} {scope : Scope} {own : List (Str × Nat)} {wi : Rho → R (List PV)} {tgt : PV → Rho → Option Rho} {test : Rho → R Bool} {elt : Rho → R PV} {ts : List Nat}
theorem e_lc (hc : X.calm = true) (hN : X.N.Nodup) (hi : IJ X W tg it wi) (ok : BlkOk X.N X.env.scope scope own) (hts : ∀ i ∈ ts, i ∈ own.map (·.2))
    (hg : ∀ (s : Shared) (H : Hp) (C : Addr) (cl : List (Str × Addr)) (fp : List Addr), GJ (X.blk s H scope (compEnvC scope cl C X.env) fp) tg ts tgt)
    (ht : ∀ (s : Shared) (H : Hp) (C : Addr) (cl : List (Str × Addr)) (fp : List Addr), CJ (X.blk s H scope (compEnvC scope cl C X.env) fp) WF ifs test)
    (he : ∀ (s : Shared) (H : Hp) (C : Addr) (cl : List (Str × Addr)) (fp : List Addr), EJ (X.blk s H scope (compEnvC scope cl C X.env) fp) WF .s e elt)
    (hs : ∀ x, foldedSetIterable it X.env x = pure x := by intro _; rfl) : EJ X W .f (.ListComp e [⟨tg, it, ifs, 0⟩] scope pos) (eLc (own.map (·.2)) wi tgt test elt) :=
  pe_imp (pe_lc hc hN hi ok hg ht he hs) (lc_run hts)
end
inductive Out where
  | next (ρ : Rho) | ret (p : PV) | brk (ρ : Rho) | cont (ρ : Rho) | exc (c : Str) (ρ : Rho) | stuck
def GotS (K : PySem.W.Frag) (mg : Str → Option Value) (W : WX) (nw : Bool) (H0 : Hp) (O0 : Addr → Prop) (σ : St) (ρ : Rho) (H : Hp) (D : Ends) : Out → Prop
  | .next ρ' => ∀ σ' H', StR K H0 O0 H' σ' ρ' → Kept (OO O0 σ ρ) H (OO O0 σ' ρ') H' → D.nx σ' H'
  | .brk ρ' => ∀ σ' H', StR K H0 O0 H' σ' ρ' → Kept (OO O0 σ ρ) H (OO O0 σ' ρ') H' → D.bk σ' H'
  | .cont ρ' => ∀ σ' H', StR K H0 O0 H' σ' ρ' → Kept (OO O0 σ ρ) H (OO O0 σ' ρ') H' → D.ct σ' H'
  | .ret p => ∀ v H', Same H0 H' → RepR K O0 nw H0 H' v p → D.rt v H'
  | .exc c ρ' => ∀ C σ' H', mg c = some (.ref C) → StR K H0 O0 H' σ' ρ' → Kept (OO O0 σ ρ) H (OO O0 σ' ρ') H' → W (.ref C) none σ' H'
  | .stuck => False
def tS (K : PySem.W.Frag) (mg : Str → Option Value) (W : WX) (nw : Bool) (g : Rho → Out) : TS := fun D σ H =>
  ∃ H0 O0 ρ, StR K H0 O0 H σ ρ ∧ GotS K mg W nw H0 O0 σ ρ H D (g ρ)
abbrev SJ (X : Cx) (W : WX) (nw : Bool) (st : Stmt) (g : Rho → Out) : Prop := PS X st (tS X.K X.mg W nw g)
abbrev BJ (X : Cx) (W : WX) (nw : Bool) (st : List Stmt) (g : Rho → Out) : Prop := PSs X st (tS X.K X.mg W nw g)
def Out.then (o : Out) (k : Rho → Out) : Out := match o with
  | .next ρ => k ρ
  | o => o
section
variable {K : PySem.W.Frag} {mg : Str → Option Value} {W : WX} {nw : Bool} {H0 H H1 : Hp} {O0 : Addr → Prop} {σ σ1 : St} {ρ ρ1 : Rho} {D : Ends}
theorem GotS.later {o : Out} (k : Kept (OO O0 σ ρ) H (OO O0 σ1 ρ1) H1) (G : GotS K mg W nw H0 O0 σ ρ H D o) : GotS K mg W nw H0 O0 σ1 ρ1 H1 D o := by
  cases o with
  | next ρ' => exact fun σ' H' S k' => G σ' H' S (k.trans k')
  | brk ρ' => exact fun σ' H' S k' => G σ' H' S (k.trans k')
  | cont ρ' => exact fun σ' H' S k' => G σ' H' S (k.trans k')
  | ret p => exact G
  | exc c ρ' => exact fun C σ' H' e S k' => G C σ' H' e S (k.trans k')
  | stuck => exact G
/-- an expression's exception, from the statement's -/
theorem exc_of {c : Str} (S : StR K H0 O0 H σ ρ) (G : GotS K mg W nw H0 O0 σ ρ H D (.exc c ρ)) : ∀ C H', Same H H' → mg c = some (.ref C) → W (.ref C) none σ H' :=
  fun C H' s e => G C σ H' e (S.step s) (Kept.same s)
theorem kept_set {i : Nat} {v : Option V} {s : Slot} (hs : ∀ ps, s ≠ .own ps) (sm : Same H H1) : Kept (OO O0 σ ρ) H (OO O0 (σ.set i v) (ρ.set i s)) H1 := fun a o h n => ⟨sm a o h, fun z => n (OO.set_val hs z)⟩
theorem kept_own {i : Nat} {a : Addr} {ps : List PV} (hn : H a = none) (sm : Same H H1) : Kept (OO O0 σ ρ) H (OO O0 (σ.set i (some (.ref a))) (ρ.set i (.own ps))) H1 := fun b o h n => ⟨sm b o h, fun z => by
  rcases z with z | ⟨j, qs, h1, h2⟩
  · exact n (.inl z)
  · by_cases e : i = j
    · subst e
      by_cases hl : i < σ.length
      · rw [List.getElem?_set_self hl] at h2; cases h2
        exact ne_of_none h hn rfl
      · rw [List.getElem?_eq_none (by rw [List.length_set]; omega)] at h2; cases h2
    · rw [List.getElem?_set_ne e] at h1 h2
      exact n (.inr ⟨j, qs, h1, h2⟩)⟩
end
section
variable {X : Cx} {W : WX} {nw : Bool} {st : Stmt} {rest : List Stmt} {e : Expr} {pos : Pos} {f : Rho → R PV} {g h : Rho → Out}
theorem ps_imp {t t' : TS} (h : PS X st t) (q : ∀ D σ H, t' D σ H → t D σ H) : PS X st t' := ⟨fun pins s σ H D I hw => h.run pins s σ H D I (q D σ H hw)⟩
theorem pss_imp {sts : List Stmt} {t t' : TS} (h : PSs X sts t) (q : ∀ D σ H, t' D σ H → t D σ H) : PSs X sts t' := ⟨fun pins s σ H D I hw => h.run pins s σ H D I (q D σ H hw)⟩
def bNil : Rho → Out := .next
def bSeq (g h : Rho → Out) : Rho → Out := fun ρ => (g ρ).then h
theorem b_nil : BJ X W nw [] bNil := by
  refine pss_imp pss_nil fun D σ H ⟨H0, O0, ρ, S, G⟩ => ?_
  exact G σ H S (Kept.refl _ _)
theorem b_cons (h1 : SJ X W nw st g) (h2 : BJ X W nw rest h) : BJ X W nw (st :: rest) (bSeq g h) := by
  refine pss_imp (pss_cons h1 h2) fun D σ H ⟨H0, O0, ρ, S, G⟩ => ⟨H0, O0, ρ, S, ?_⟩
  have G' : GotS X.K X.mg W nw H0 O0 σ ρ H D ((g ρ).then h) := G
  revert G'
  cases g ρ with
  | next ρ' => exact fun G' σ' H' S' k => ⟨H0, O0, ρ', S', GotS.later k G'⟩
  | ret p => exact fun G => G
  | brk ρ' => exact fun G => G
  | cont ρ' => exact fun G => G
  | exc c ρ' => exact fun G => G
  | stuck => exact fun G => G
/-- by an expression, then on -/
def sE (f : Rho → R PV) (k : PV → Rho → Out) : Rho → Out := fun ρ => match f ρ with
  | .ok p => k p ρ
  | .exc c => .exc c ρ
  | .stuck => .stuck
theorem got_e {K : PySem.W.Frag} {mg : Str → Option Value} {H0 H : Hp} {O0 : Addr → Prop} {σ : St} {ρ : Rho} {D : Ends} {m : Md} {k : PV → Rho → Out} {Q : VK} (S : StR K H0 O0 H σ ρ) (G : GotS K mg W nw H0 O0 σ ρ H D (sE f k ρ))
    (hk : ∀ p v H', Same H H' → RepM K O0 σ ρ m H H' v p → GotS K mg W nw H0 O0 σ ρ H D (k p ρ) → Q v H') : Got K mg W O0 σ ρ m H Q (f ρ) := by
  revert G
  unfold sE
  cases f ρ with
  | ok p => exact fun G v H' s r => hk p v H' s r G
  | exc c => exact fun G => exc_of S G
  | stuck => exact fun G => G
def sDrop (f : Rho → R PV) : Rho → Out := sE f fun _ ρ => .next ρ
def sRet (f : Rho → R PV) : Rho → Out := sE f fun p _ => .ret p
theorem s_ret (he : EJ X W .s e f) : SJ X W false (.Return (some e) pos) (sRet f) := by
  refine ps_imp (ps_ret he) fun D σ H ⟨H0, O0, ρ, S, G⟩ => ⟨H0, O0, ρ, S, got_e S G fun p v H' s r G => ?_⟩
  exact G v H' (S.same.trans s) (Rep.less (fun _ z => .inl z) r)
/-- a list of one's own is handed back -/
def sRetO (i : Nat) : Rho → Out := fun ρ => match ρ[i]? with
  | some (.own ps) => .ret (.lst ps)
  | _ => .stuck
def sIf (t : Rho → R Bool) (g h : Rho → Out) : Rho → Out := fun ρ => match t ρ with
  | .ok true => g ρ
  | .ok false => h ρ
  | .exc c => .exc c ρ
  | .stuck => .stuck
theorem s_if {c : Expr} {a b : List Stmt} {t : Rho → R Bool} (hc : TJ X W c t) (ha : BJ X W nw a g) (hb : BJ X W nw b h) : SJ X W nw (.If c a b pos) (sIf t g h) := by
  refine ps_imp (ps_if hc ha hb) fun D σ H ⟨H0, O0, ρ, S, G⟩ => ⟨H0, O0, ρ, S, ?_⟩
  have G' : GotS X.K X.mg W nw H0 O0 σ ρ H D (match t ρ with
    | .ok true => g ρ
    | .ok false => h ρ
    | .exc c => .exc c ρ
    | .stuck => .stuck) := G
  revert G'
  cases t ρ with
  | ok b =>
    cases b with
    | true => exact fun G H' s => by show (if true = true then _ else _); exact iteT ⟨H0, O0, ρ, S.step s, GotS.later (Kept.same s) G⟩
    | false => exact fun G H' s => by show (if false = true then _ else _); exact iteF ⟨H0, O0, ρ, S.step s, GotS.later (Kept.same s) G⟩
  | exc c => exact fun G => exc_of S G
  | stuck => exact fun G => G
def sSet (i : Nat) (f : Rho → R PV) : Rho → Out := sE f fun p ρ => .next (ρ.set i (.val p))
def sSetO (i : Nat) (f : Rho → R PV) : Rho → Out := sE f fun p ρ => match p with
  | .lst ps => .next (ρ.set i (.own ps))
  | _ => .stuck
theorem q_set {K : PySem.W.Frag} {mg : Str → Option Value} {i : Nat} {te : TE} (hte : ∀ σ H Q, tE K mg W .s f σ H Q → te σ H Q) : ∀ D σ H, tS K mg W nw (sSet i f) D σ H → tAsg te (gName i) D σ H := by
  intro D σ H ⟨H0, O0, ρ, S, G⟩
  refine hte _ _ _ ⟨H0, O0, ρ, S, got_e S G fun p v H' s r G => ?_⟩
  exact G _ H' ((S.step s).set (s := .val p) (fun _ z => nomatch z) fun q z => by cases z; exact ⟨v, rfl, r⟩) (kept_set (s := .val p) (fun _ z => nomatch z) s)
theorem q_setO {K : PySem.W.Frag} {mg : Str → Option Value} {i : Nat} {te : TE} (hte : ∀ σ H Q, tE K mg W .f f σ H Q → te σ H Q) : ∀ D σ H, tS K mg W nw (sSetO i f) D σ H → tAsg te (gName i) D σ H := by
  intro D σ H ⟨H0, O0, ρ, S, G⟩
  refine hte _ _ _ ⟨H0, O0, ρ, S, got_e S G fun p v H' s r G => ?_⟩
  obtain ⟨a, vs, ps, rfl, rfl, e3, e4, e5⟩ := r
  exact G _ H' (S.setOwn s e3 e4 e5) (kept_own e3 s)
theorem s_set {i : Nat} {x : Str} {pos' : Pos} (hN : X.N.Nodup) (hi : X.N[i]? = some x) (hx : Loc X.env.scope x) (he : EJ X W .s e f) (hs : swapsWith e (some (.Name x pos')) pos.line X.env = pure false := by rfl) (hf : X.fn x = true ∨ X.env.scope.names.lookup x = some .local := by first | exact .inl rfl | exact .inr rfl | assumption) :
    SJ X W nw (.Assign [.Name x pos'] e pos) (sSet i f) := ps_imp (ps_set hN hi hx he hs hf) (q_set fun _ _ _ z => z)
theorem s_setO {i : Nat} {x : Str} {pos' : Pos} (hN : X.N.Nodup) (hi : X.N[i]? = some x) (hx : Loc X.env.scope x) (he : EJ X W .f e f) (hs : swapsWith e (some (.Name x pos')) pos.line X.env = pure false := by rfl) (hf : X.fn x = true ∨ X.env.scope.names.lookup x = some .local := by first | exact .inl rfl | exact .inr rfl | assumption) :
    SJ X W nw (.Assign [.Name x pos'] e pos) (sSetO i f) := ps_imp (ps_set hN hi hx he hs hf) (q_setO fun _ _ _ z => z)
/-- y = [.. for ..] -/
theorem lcs {i : Nat} {y : Str} {py : Pos} {tg it : Expr} {ifs : List Expr} {scope : Scope} {own : List (Str × Nat)} {spos : Pos} {wi : Rho → R (List PV)} {tgt : PV → Rho → Option Rho} {test : Rho → R Bool} {elt : Rho → R PV} {ts : List Nat} {t : TS}
    (hq : ∀ D σ H, t D σ H → tAsg (tLc (tI X.K X.mg W wi) (tG X.K ts tgt) (tT X.K X.mg WF test) (tE X.K X.mg WF .s elt) (own.map (·.2))) (gName i) D σ H) (hc : X.calm = true) (hN : X.N.Nodup) (hy : X.N[i]? = some y) (hyl : X.env.scope.names.lookup y = some .local)
    (hsw : swapsWith (.ListComp e [⟨tg, it, ifs, 0⟩] scope pos) (some (.Name y py)) spos.line X.env = pure true) (hi : IJ X W tg it wi) (ok : BlkOk X.N X.env.scope scope own)
    (hg : ∀ (s : Shared) (H : Hp) (C : Addr) (cl : List (Str × Addr)) (fp : List Addr), GJ (X.blk s H scope (compEnvC scope cl C X.env) fp) tg ts tgt)
    (ht : ∀ (s : Shared) (H : Hp) (C : Addr) (cl : List (Str × Addr)) (fp : List Addr), CJ (X.blk s H scope (compEnvC scope cl C X.env) fp) WF ifs test)
    (he : ∀ (s : Shared) (H : Hp) (C : Addr) (cl : List (Str × Addr)) (fp : List Addr), EJ (X.blk s H scope (compEnvC scope cl C X.env) fp) WF .s e elt)
    (hs : ∀ x, foldedSetIterable it X.env x = pure x := by intro _; rfl) : PS X (.Assign [.Name y py] (.ListComp e [⟨tg, it, ifs, 0⟩] scope pos) spos) t := ps_imp (ps_setLc hc hN hy hyl hsw hi ok hg ht he hs) hq
theorem q_lc {i : Nat} {wi : Rho → R (List PV)} {tgt : PV → Rho → Option Rho} {test : Rho → R Bool} {elt : Rho → R PV} {vs ts : List Nat} (hts : ∀ i ∈ ts, i ∈ vs) : ∀ D σ H, tS X.K X.mg W nw (sSet i (eLc vs wi tgt test elt)) D σ H → tAsg (tLc (tI X.K X.mg W wi) (tG X.K ts tgt) (tT X.K X.mg WF test) (tE X.K X.mg WF .s elt) vs) (gName i) D σ H :=
  q_set fun σ H Q ⟨H0, O0, ρ, S, G⟩ => lc_run hts σ H Q ⟨H0, O0, ρ, S, by
    revert G
    cases eLc vs wi tgt test elt ρ with
    | ok p => exact fun G v H' s r => G v H' s (RepM.f_s S r)
    | exc c => exact fun G => G
    | stuck => exact fun G => G⟩
/-- target = e -/
def sTo (h : PV → Rho → Option Rho) (f : Rho → R PV) : Rho → Out := sE f fun p ρ => match h p ρ with
  | some ρ' => .next ρ'
  | none => .stuck
theorem s_to {tg : Expr} {ts : List Nat} {h : PV → Rho → Option Rho} (he : EJ X W .s e f) (hg : GJ X tg ts h) (hs : swapsWithSole [tg] e pos.line X.env = pure false := by rfl) (hw : swappedStores [tg] e X.env = pure none := by rfl)
    (h1 : (assignEach [tg] X.env).map (·.2) = [assign tg X.env] := by rfl) : SJ X W nw (.Assign [tg] e pos) (sTo h f) := by
  refine ps_imp (ps_asg he hg hs hw h1) fun D σ H ⟨H0, O0, ρ, S, G⟩ => ⟨H0, O0, ρ, S, got_e S G fun p v H' s r G => ?_⟩
  refine ⟨H0, O0, ρ, p, S.step s, r, ?_⟩
  revert G
  cases h p ρ with
  | none => exact False.elim
  | some ρ' => exact fun G σ' S' l _ _ => G σ' H' S' fun a o ho n => ⟨s a o ho, fun z => n (l a z)⟩
/-- a, b = x, y -/
def sPar (i j : Nat) (fA : Rho → R (List PV)) : Rho → Out := fun ρ => match fA ρ with
  | .ok [p, q] => .next ((ρ.set i (.val p)).set j (.val q))
  | .exc c => .exc c ρ
  | _ => .stuck
theorem s_par {i j : Nat} {x y : Str} {a b : Expr} {fA : Rho → R (List PV)} {px py pt : Pos} {kt k2 pt2} (hc : X.calm = true) (hN : X.N.Nodup) (hi : X.N[i]? = some x) (hj : X.N[j]? = some y) (hij : i ≠ j)
    (hx : X.env.scope.names.lookup x = some .local) (hy : X.env.scope.names.lookup y = some .local) (ha : AJ X W .s [a, b] fA)
    (hw : swappedStores [.Tuple [.Name x px, .Name y py] kt pt] (.Tuple [a, b] k2 pt2) X.env = pure (some [x, y]))
    (hs : swapsWithSole [.Tuple [.Name x px, .Name y py] kt pt] (.Tuple [a, b] k2 pt2) pos.line X.env = pure false := by rfl) :
    SJ X W nw (.Assign [.Tuple [.Name x px, .Name y py] kt pt] (.Tuple [a, b] k2 pt2) pos) (sPar i j fA) := by
  refine ps_imp (ps_par hc hN hi hj hij hx hy ha hw hs) fun D σ H ⟨H0, O0, ρ, S, G⟩ => ⟨H0, O0, ρ, S, ?_⟩
  unfold sPar at G
  revert G
  cases fA ρ with
  | stuck => exact False.elim
  | exc c => exact fun G => exc_of S G
  | ok ps =>
    match ps with
    | [p, q] =>
      intro G vs H' s r
      obtain ⟨v, w, rfl, r1, r2⟩ := pr2 r
      refine ⟨v, w, rfl, ?_⟩
      have S1 := S.step s
      have S2 := S1.set (i := i) (v := some v) (s := .val p) (fun _ z => nomatch z) fun q z => by cases z; exact ⟨v, rfl, r1⟩
      have l1 : ∀ a, OO O0 (σ.set i (some v)) (ρ.set i (.val p)) a → OO O0 σ ρ a := fun a z => OO.set_val (s := .val p) (fun _ z => nomatch z) z
      have r2' : Rep X.K H' (OO O0 (σ.set i (some v)) (ρ.set i (.val p))) w q := Rep.less l1 r2
      have S3 := S2.set (i := j) (v := some w) (s := .val q) (fun _ z => nomatch z) fun q' z => by cases z; exact ⟨w, rfl, r2'⟩
      exact G _ H' S3 fun a o ho n => ⟨s a o ho, fun z => n (l1 a (OO.set_val (s := .val q) (fun _ z => nomatch z) z))⟩
    | [] => exact False.elim
    | [_] => exact False.elim
    | _ :: _ :: _ :: _ => exact False.elim
/-- x op= e, by values -/
def sAug (i : Nat) (g : PV → PV → R PV) (f : Rho → R PV) : Rho → Out := fun ρ => match ρ[i]? with
  | some (.val x) => sE (fun ρ => (f ρ).bind fun y => g x y) (fun z ρ => .next (ρ.set i (.val z))) ρ
  | _ => .stuck
theorem s_aug {i : Nat} {x : Str} {op : Operator} {r : R2} {g : PV → PV → R PV} {pos' : Pos} (hN : X.N.Nodup) (hi : X.N[i]? = some x) (hx : Loc X.env.scope x) (he : EJ X W .t e f) (hr : OpR X (inplaceOp op) r) (hg : ∀ p q c, g p q ≠ .exc c) (ho : OpS X.K r .t .t .s g) (hf : X.fn x = true ∨ X.env.scope.names.lookup x = some .local := by first | exact .inl rfl | exact .inr rfl | assumption) :
    SJ X W nw (.AugAssign (.Name x pos') op e pos) (sAug i g f) := by
  refine ps_imp (ps_aug hN hi hx he (ti := r) (fun pins s σ H x y v u Q I r1 r2 h => hr pins s σ H x y v u Q I r1 r2 h) hf) fun D σ H ⟨H0, O0, ρ, S, G⟩ => ?_
  unfold sAug at G
  split at G
  · rename_i p hp
    obtain ⟨v, e1, e2⟩ := S.val i p hp
    refine ⟨v, e1, H0, O0, ρ, S, ?_⟩
    have G' : GotS X.K X.mg W nw H0 O0 σ ρ H D (match (f ρ).bind fun y => g p y with
      | .ok z => .next (ρ.set i (.val z))
      | .exc c => .exc c ρ
      | .stuck => .stuck) := G
    revert G'
    cases f ρ with
    | stuck => exact False.elim
    | exc c => exact fun G => exc_of S G
    | ok q =>
      intro G y H1 s1 r1
      refine ho S s1 (RepM.s_t (H := H) (Rep.same s1 e2)) r1 ?_
      revert G
      rw [R.bind_ok]
      cases hz : g p q with
      | stuck => exact False.elim
      | exc c => exact absurd hz (hg p q c)
      | ok z => exact fun G w H2 s2 r2 => G _ H2 ((S.step (s1.trans s2)).set (s := .val z) (fun _ z => nomatch z) fun q z => by cases z; exact ⟨w, rfl, r2⟩) (kept_set (s := .val z) (fun _ z => nomatch z) (s1.trans s2))
  · exact G.elim
theorem s_augAdd {i : Nat} {x : Str} {pos' : Pos} (hN : X.N.Nodup) (hi : X.N[i]? = some x) (hx : Loc X.env.scope x) (he : EJ X W .t e f) (hf : X.fn x = true ∨ X.env.scope.names.lookup x = some .local := by first | exact .inl rfl | exact .inr rfl | assumption) :
    SJ X W nw (.AugAssign (.Name x pos') .Add e pos) (sAug i (intP (fun _ _ => true) fun a b => .int (a + b)) f) := s_aug hN hi hx he iop_add intP_exc (s_int0 fun _ _ _ _ => .int _) hf
theorem s_augSub {i : Nat} {x : Str} {pos' : Pos} (hN : X.N.Nodup) (hi : X.N[i]? = some x) (hx : Loc X.env.scope x) (he : EJ X W .t e f) (hf : X.fn x = true ∨ X.env.scope.names.lookup x = some .local := by first | exact .inl rfl | exact .inr rfl | assumption) :
    SJ X W nw (.AugAssign (.Name x pos') .Sub e pos) (sAug i subP f) := s_aug hN hi hx he iop_sub intP_exc (s_int0 fun _ _ _ _ => .int _) hf
theorem s_augMul {i : Nat} {x : Str} {pos' : Pos} (hN : X.N.Nodup) (hi : X.N[i]? = some x) (hx : Loc X.env.scope x) (he : EJ X W .t e f) (hf : X.fn x = true ∨ X.env.scope.names.lookup x = some .local := by first | exact .inl rfl | exact .inr rfl | assumption) :
    SJ X W nw (.AugAssign (.Name x pos') .Mult e pos) (sAug i mulP f) := s_aug hN hi hx he iop_mulW intP_exc (s_int (fun _ _ h => of_decide_eq_true h) fun _ _ _ _ => .int _) hf
/-- a list is let go -/
def sFrz (i : Nat) (g : Rho → Out) : Rho → Out := fun ρ => match ρ[i]? with
  | some (.own ps) => g (ρ.set i (.val (.lst ps)))
  | _ => g ρ
theorem s_frz {i : Nat} {sts : List Stmt} (h : BJ X W nw sts g) : BJ X W nw sts (sFrz i g) := by
  refine pss_imp h fun D σ H ⟨H0, O0, ρ, S, G⟩ => ?_
  unfold sFrz at G
  split at G
  · rename_i ps hp
    have k : Kept (OO O0 σ ρ) H (OO O0 σ (ρ.set i (.val (.lst ps)))) H := fun a o h n => ⟨h, fun z => n (by
      rcases z with z | ⟨j, qs, h1, h2⟩
      · exact .inl z
      · by_cases e : i = j
        · subst e
          rw [List.getElem?_set_self (List.getElem?_eq_some_iff.mp hp).1] at h1; cases h1
        · rw [List.getElem?_set_ne e] at h1
          exact .inr ⟨j, qs, h1, h2⟩)⟩
    exact ⟨H0, O0, _, S.freeze hp, GotS.later k G⟩
  · exact ⟨H0, O0, ρ, S, G⟩
end
end PL
set_option Elab.async false
set_option linter.all false
set_option maxRecDepth 100000
set_option autoImplicit false
namespace PL
open PySem PySem.Spec L2
open PyProof.Rows hiding St
section
variable {X : Cx} {W : WX} {nw : Bool} {st : Stmt} {rest : List Stmt} {e : Expr} {pos : Pos} {f : Rho → R PV} {g h : Rho → Out}
def forL (tgt : PV → Rho → Option Rho) (body : Rho → Out) : List PV → Rho → Out
  | [], ρ => .next ρ
  | p :: ps, ρ => match tgt p ρ with
    | none => .stuck
    | some ρ1 => match body ρ1 with
      | .next ρ' => forL tgt body ps ρ'
      | .cont ρ' => forL tgt body ps ρ'
      | .brk ρ' => .next ρ'
      | o => o
def sFor (it : Rho → R (List PV)) (tgt : PV → Rho → Option Rho) (body : Rho → Out) : Rho → Out := fun ρ => match it ρ with
  | .ok items => forL tgt body items ρ
  | .exc c => .exc c ρ
  | .stuck => .stuck
theorem s_for {tg it : Expr} {body : List Stmt} {wi : Rho → R (List PV)} {tgt : PV → Rho → Option Rho} {ts : List Nat} (hp : PassesOwn (model X.prog X.w) X.A X.env X.xe) (hc : X.calm = true) (hi : IJ X W tg it wi) (hg : GJ X tg ts tgt) (hb : BJ X W nw body g) (hs : ∀ x, foldedSetIterable it X.env x = pure x := by intro _; rfl) : SJ X W nw (.For tg it body [] pos) (sFor wi tgt g) := by
  refine ps_imp (ps_for hp hc hi hg hb hs) fun D σ H ⟨H0, O0, ρ, S, G⟩ => ⟨H0, O0, ρ, S, ?_⟩
  have G' : GotS X.K X.mg W nw H0 O0 σ ρ H D (match wi ρ with
    | .ok items => forL tgt g items ρ
    | .exc c => .exc c ρ
    | .stuck => .stuck) := G
  revert G'
  cases wi ρ with
  | stuck => exact False.elim
  | exc c => exact fun G => exc_of S G
  | ok items =>
    intro G J H1 s1 ok
    refine ⟨fun i m σc Hc => m = items.length - i ∧ i ≤ items.length ∧ ∃ ρc, StR X.K H0 O0 Hc σc ρc ∧ Kept (OO O0 σ ρ) H1 (OO O0 σc ρc) Hc ∧ GotS X.K X.mg W nw H0 O0 σc ρc Hc D (forL tgt g (items.drop i) ρc),
      ⟨items.length, by simp, Nat.zero_le _, ρ, S.step s1, Kept.refl _ _, by rw [List.drop_zero]; exact GotS.later (Kept.same s1) G⟩, ?_⟩
    rintro i m σc Hc ⟨rfl, hi, ρc, Sc, kc, Gc⟩
    by_cases hlt : i < items.length
    · refine .inr ⟨ok.go i Hc _ kc hlt, fun σ' H' => ∃ ρ', StR X.K H0 O0 H' σ' ρ' ∧ Kept (OO O0 σ ρ) H1 (OO O0 σ' ρ') H' ∧ GotS X.K X.mg W nw H0 O0 σ' ρ' H' D (forL tgt g (items.drop (i + 1)) ρ'), fun σ' H' n => ⟨items.length - (i + 1), by omega, rfl, hlt, n⟩, fun x Hy hy => ?_⟩
      have hg : items[i]? = some items[i] := List.getElem?_eq_getElem hlt
      obtain ⟨sy, ry⟩ := ok.yld i Hc _ x Hy _ kc (fun a z => Sc.there z) hg hy
      have hdr : items.drop i = items[i] :: items.drop (i + 1) := List.drop_eq_getElem_cons hlt
      rw [hdr] at Gc
      refine ⟨H0, O0, ρc, items[i], Sc.step sy, ry, ?_⟩
      unfold forL at Gc
      revert Gc
      cases tgt items[i] ρc with
      | none => exact False.elim
      | some ρ1 =>
        intro Gc σ2 S2 l2 _ _
        have k2 : Kept (OO O0 σc ρc) Hc (OO O0 σ2 ρ1) Hy := fun a o h n => ⟨sy a o h, fun z => n (l2 a z)⟩
        refine ⟨H0, O0, ρ1, S2, ?_⟩
        have Gc' := GotS.later k2 Gc
        revert Gc'
        dsimp only
        cases g ρ1 with
        | next ρ' => exact fun Gc' σ' H' S' k' => ⟨ρ', S', (kc.trans k2).trans k', GotS.later k' Gc'⟩
        | cont ρ' => exact fun Gc' σ' H' S' k' => ⟨ρ', S', (kc.trans k2).trans k', GotS.later k' Gc'⟩
        | brk ρ' => exact fun G => G
        | ret p => exact fun G => G
        | exc c ρ' => exact fun G => G
        | stuck => exact fun G => G
    · have e : i = items.length := by omega
      subst e
      rw [List.drop_length] at Gc
      exact .inl ⟨ok.stop _ Hc _ kc (Nat.le_refl _), Gc σc Hc Sc (Kept.refl _ _)⟩
def whN (t : Rho → R Bool) (b : Rho → Out) : Nat → Rho → Out
  | 0, _ => .stuck
  | n + 1, ρ => match t ρ with
    | .stuck => .stuck
    | .exc c => .exc c ρ
    | .ok false => .next ρ
    | .ok true => match b ρ with
      | .next ρ' => whN t b n ρ'
      | .cont ρ' => whN t b n ρ'
      | .brk ρ' => .next ρ'
      | o => o
theorem whN_more {t : Rho → R Bool} {b : Rho → Out} : ∀ (n : Nat) (ρ : Rho), whN t b n ρ ≠ .stuck → whN t b (n + 1) ρ = whN t b n ρ
  | 0, ρ, h => absurd rfl h
  | n + 1, ρ, h => by
    unfold whN at h
    rw [whN]
    conv => rhs; rw [whN]
    revert h
    cases t ρ with
    | stuck => exact fun _ => rfl
    | exc c => exact fun _ => rfl
    | ok k =>
      cases k with
      | false => exact fun _ => rfl
      | true =>
        dsimp only
        cases b ρ with
        | next ρ' => exact fun h => whN_more n ρ' h
        | cont ρ' => exact fun h => whN_more n ρ' h
        | _ => exact fun _ => rfl
theorem whN_le {t : Rho → R Bool} {b : Rho → Out} {n m : Nat} {ρ : Rho} (h : whN t b n ρ ≠ .stuck) (hl : n ≤ m) : whN t b m ρ = whN t b n ρ := by
  induction m with
  | zero => rw [Nat.le_zero.mp hl]
  | succ m ih =>
    by_cases e : n = m + 1
    · rw [e]
    · have q := ih (by omega)
      rw [whN_more m ρ (by rw [q]; exact h), q]
open Classical in
noncomputable def sWh (t : Rho → R Bool) (b : Rho → Out) (ρ : Rho) : Out := if h : ∃ n, whN t b n ρ ≠ .stuck then whN t b h.choose ρ else .stuck
theorem sWh_of {t : Rho → R Bool} {b : Rho → Out} {n : Nat} {ρ : Rho} (h : whN t b n ρ ≠ .stuck) : sWh t b ρ = whN t b n ρ := by
  have hx : ∃ n, whN t b n ρ ≠ .stuck := ⟨n, h⟩
  unfold sWh
  rw [dif_pos hx]
  have hc := hx.choose_spec
  rcases Nat.le_total n hx.choose with l | l
  · exact whN_le h l
  · exact (whN_le hc l).symm
theorem sWh_ex {t : Rho → R Bool} {b : Rho → Out} {ρ : Rho} (h : sWh t b ρ ≠ .stuck) : ∃ n, whN t b n ρ = sWh t b ρ := by
  by_cases hx : ∃ n, whN t b n ρ ≠ .stuck
  · obtain ⟨n, hn⟩ := hx
    exact ⟨n, (sWh_of hn).symm⟩
  · unfold sWh at h
    rw [dif_neg hx] at h
    exact absurd rfl h
/-- one turn -/
theorem sWh_eq (t : Rho → R Bool) (b : Rho → Out) (ρ : Rho) : sWh t b ρ = (match t ρ with
    | .stuck => .stuck
    | .exc c => .exc c ρ
    | .ok false => .next ρ
    | .ok true => match b ρ with
      | .next ρ' => sWh t b ρ'
      | .cont ρ' => sWh t b ρ'
      | .brk ρ' => .next ρ'
      | o => o) := by
  have go : ∀ ρ', (∀ n, whN t b (n + 1) ρ = whN t b n ρ') → sWh t b ρ = sWh t b ρ' := fun ρ' q => by
    by_cases h : sWh t b ρ' = .stuck
    · rw [h]
      by_cases h2 : sWh t b ρ = .stuck
      · exact h2
      · obtain ⟨n, hn⟩ := sWh_ex h2
        have hn' : whN t b n ρ ≠ .stuck := by rw [hn]; exact h2
        have e : whN t b n ρ' ≠ .stuck := by rw [← q n, whN_more n ρ hn']; exact hn'
        rw [sWh_of e] at h
        exact absurd h e
    · obtain ⟨n, hn⟩ := sWh_ex h
      have e : whN t b (n + 1) ρ ≠ .stuck := by rw [q n, hn]; exact h
      rw [sWh_of e, q n, hn]
  have one : ∀ o, o ≠ .stuck → whN t b 1 ρ = o → sWh t b ρ = o := fun o ho e => by rw [← e]; exact sWh_of (by rw [e]; exact ho)
  have non : (∀ n, whN t b n ρ = .stuck) → sWh t b ρ = .stuck := fun q => by
    unfold sWh
    rw [dif_neg (fun ⟨n, hn⟩ => hn (q n))]
  cases ht : t ρ with
  | stuck => exact non fun n => by cases n with | zero => rfl | succ n => rw [whN, ht]
  | exc c => exact one _ (fun z => nomatch z) (by rw [whN, ht])
  | ok k =>
    cases k with
    | false => exact one _ (fun z => nomatch z) (by rw [whN, ht])
    | true =>
      dsimp only
      cases hb : b ρ with
      | next ρ' => exact go ρ' fun n => by rw [whN, ht]; dsimp only; rw [hb]
      | cont ρ' => exact go ρ' fun n => by rw [whN, ht]; dsimp only; rw [hb]
      | brk ρ' => exact one _ (fun z => nomatch z) (by rw [whN, ht]; dsimp only; rw [hb])
      | ret p => exact one _ (fun z => nomatch z) (by rw [whN, ht]; dsimp only; rw [hb])
      | exc c ρ' => exact one _ (fun z => nomatch z) (by rw [whN, ht]; dsimp only; rw [hb])
      | stuck => exact non fun n => by cases n with | zero => rfl | succ n => rw [whN, ht]; dsimp only; rw [hb]
theorem s_while {c : Expr} {body : List Stmt} {t : Rho → R Bool} (hp : PassesOwn (model X.prog X.w) X.A X.env X.xe) (hc : TJ X W c t) (hb : BJ X W nw body g) : SJ X W nw (.While c body [] pos) (sWh t g) := by
  refine ps_imp (ps_while hp hc hb) fun D σ H ⟨H0, O0, ρ, S, G⟩ => ?_
  have ns : sWh t g ρ ≠ .stuck := fun z => by rw [z] at G; exact G
  obtain ⟨n, hn⟩ := sWh_ex ns
  rw [← hn] at G
  refine ⟨fun m σc Hc => ∃ ρc, StR X.K H0 O0 Hc σc ρc ∧ GotS X.K X.mg W nw H0 O0 σc ρc Hc D (whN t g m ρc), ⟨n, ρ, S, G⟩, ?_⟩
  rintro m σc Hc ⟨ρc, Sc, Gc⟩
  cases m with
  | zero => exact Gc.elim
  | succ m =>
    refine ⟨H0, O0, ρc, Sc, ?_⟩
    unfold whN at Gc
    revert Gc
    cases t ρc with
    | stuck => exact False.elim
    | exc c => exact fun G => exc_of Sc G
    | ok k =>
      cases k with
      | false => exact fun G H1 s1 => iteF (G σc H1 (Sc.step s1) (Kept.same s1))
      | true =>
        dsimp only
        intro G H1 s1
        refine iteT ⟨fun σ' H' => ∃ ρ', StR X.K H0 O0 H' σ' ρ' ∧ GotS X.K X.mg W nw H0 O0 σ' ρ' H' D (whN t g m ρ'), fun σ' H' z => ⟨m, Nat.lt_succ_self m, z⟩, H0, O0, ρc, Sc.step s1, ?_⟩
        have G' := GotS.later (Kept.same s1) G
        revert G'
        cases g ρc with
        | next ρ' => exact fun Gc' σ' H' S' k' => ⟨ρ', S', GotS.later k' Gc'⟩
        | cont ρ' => exact fun Gc' σ' H' S' k' => ⟨ρ', S', GotS.later k' Gc'⟩
        | brk ρ' => exact fun G => G
        | ret p => exact fun G => G
        | exc c ρ' => exact fun G => G
        | stuck => exact fun G => G
theorem kept_write {O0 : Addr → Prop} {σ : St} {ρ : Rho} {H : Hp} {i : Nat} {a : Addr} {ps qs : List PV} {ws : List V} (h1 : ρ[i]? = some (.own ps)) (h2 : σ[i]? = some (some (.ref a))) : Kept (OO O0 σ ρ) H (OO O0 σ (ρ.set i (.own qs))) (upd H a (.lst ws)) := fun b o h n =>
  ⟨by rw [upd_ne (fun z => n (by rw [z]; exact .inr ⟨i, ps, h1, h2⟩))]; exact h, fun z => n (by
    rcases z with z | ⟨j, rs, e1, e2⟩
    · exact .inl z
    · by_cases e : i = j
      · subst e; exact .inr ⟨i, ps, h1, e2⟩
      · rw [List.getElem?_set_ne e] at e1; exact .inr ⟨j, rs, e1, e2⟩)⟩
/-- by the list of slot i and a value -/
def sMut (i : Nat) (g : List PV → PV → R (List PV)) (f : Rho → R PV) : Rho → Out := fun ρ => match ρ[i]? with
  | some (.own ps) => sE f (fun p ρ => match g ps p with
    | .ok qs => .next (ρ.set i (.own qs))
    | _ => .stuck) ρ
  | _ => .stuck
def appP (ps : List PV) (p : PV) : R (List PV) := if ps.length < sizeLine then .ok (ps ++ [p]) else .stuck
variable {o : Expr} {apos : Pos} {i : Nat}
theorem s_app (ho : PE X o (tVar i)) (he : EJ X W .s e f) (hs : swapsWith (.Call (.Attribute o "append" apos) [e] [] pos) none pos.line X.env = pure false := by rfl)
    (hbase : attributeBase o "append" X.env (eval o X.env) = eval o X.env := by rfl)
    (hfew : ((backTo pos (starEach [e] X.env)).all (fun x => !x.1) && (backToKw pos (keywordEach [] X.env)).all (fun x => x.1.isSome)
      && decide ([e].length + ([] : List Keyword).length + (if ([] : List Keyword).isEmpty then 0 else 1) < 30)) = true := by rfl)
    (hline : (apos.endLine == pos.line) = true := by rfl) (hs1 : starEach [e] X.env = (false, eval e X.env) :: starEach [] X.env := by rfl) (hplain : (backTo pos (starEach [] X.env)).any (·.1) = false := by rfl) :
    SJ X W nw (.Expr (.Call (.Attribute o "append" apos) [e] [] pos) pos) (sMut i appP f) := by
  refine ps_imp (ps_expr (pe_bm PySem.F.plainAttrs_list PySem.F.slot_list_append PySem.F.type_list_append mt_append ho (pa_cons he pa_nil hs1) hbase hfew hline hs1 hplain) hs) fun D σ H ⟨H0, O0, ρ, S, G⟩ => ?_
  unfold sMut at G
  split at G
  · rename_i ps hp
    obtain ⟨a, vs, e1, e2, e3, e4, e5⟩ := S.own i ps hp
    refine ⟨.ref a, e1, .inl ⟨rfl, vs, .inl (.inl e2)⟩, H0, O0, ρ, S, got_e S G fun p v H1 s1 r1 G => ?_⟩
    unfold appP at G
    split at G
    · rename_i qs hq
      split at hq
      · rename_i hz
        cases hq
        have r5 := (e5.same s1).append (.cons (show Rep X.K H1 (OO O0 σ ρ) v p from r1) .nil)
        exact ⟨a, vs, v, rfl, rfl, s1 _ _ e2, by rw [e5.length]; exact hz, G _ _ ((S.step s1).write hp e1 r5) ((Kept.same s1).trans (kept_write hp e1))⟩
      · cases hq
    · exact G.elim
  · exact G.elim
/-- xs[j] = e -/
def setP (ps : List PV) (p : PV) : PV → R (List PV)
  | .int k => match ixN ps.length k with
    | some j => .ok (ps.set j p)
    | none => .stuck
  | _ => .stuck
def sSetI (i : Nat) (f fi : Rho → R PV) : Rho → Out := fun ρ => match ρ[i]? with
  | some (.own ps) => sE f (fun p => sE fi fun q ρ => match setP ps p q with
    | .ok qs => .next (ρ.set i (.own qs))
    | _ => .stuck) ρ
  | _ => .stuck
/-- what is known of a class of errors of the text's own -/
structure ExcT (K : PySem.W.Frag) (mg : Str → Option Value) (x : Str) (C : Addr) : Prop where
  g : mg x = some (.ref C)
  ex : PySem.W.excIn K C [.type "ValueError", .type "Exception", .type "BaseException", .type "object"] "ValueError.__new__" = true
  kp : PySem.W.keepIn K (.ref C) = true
  sb : PySem.W.subIn K (.ref C) (.type "BaseException") = some true
  ty : PySem.W.typeIn K (.ref C) = some (.type "type")
def sRaise (x : Str) : Rho → Out := .exc x
theorem s_raise {x m : Str} {C : Addr} {j : Nat} {p p2 p3 : Pos} (T : ExcT X.K X.mg x C) (hc : X.calm = true) (tk : L2N.Takes X W) (hg : Gl X x) (hdb : (x == ("__debug__" : Str)) = false := by decide) : SJ X W nw (.Raise (some (.Call (.Name x p) [.Constant (.str m) j p2] [] p3)) none pos) (sRaise x) := by
  refine ps_imp (L2N.ps_raise hc tk (L2N.pmk_own PySem.F.excBase_ValueError T.ex T.g T.kp (raises_own T.sb T.ty) hg hdb)) fun D σ H ⟨H0, O0, ρ, S, G⟩ => ?_
  exact G C σ H T.g S (Kept.refl _ _)
end
def runF (n : Nat) (g : Rho → Out) : List PV → R PV := fun ps => match g (ps.map Slot.val ++ List.replicate (n - ps.length) Slot.un) with
  | .ret p => .ok p
  | .next _ => .ok .non
  | .exc c _ => .exc c
  | _ => .stuck
theorem start_st {K : PySem.W.Frag} {H : Hp} {O : Addr → Prop} {vs : List V} {ps : List PV} {N : List Str} (al : ∀ a, O a → H a ≠ none) (r : Reps K H O vs ps) : StR K H O H (L2.start N vs) (ps.map Slot.val ++ List.replicate (N.length - ps.length) Slot.un) := by
  have hl := r.length
  have noown : ∀ (i : Nat) qs, (ps.map Slot.val ++ List.replicate (N.length - ps.length) Slot.un)[i]? ≠ some (.own qs) := fun i qs e => by
    have := List.mem_of_getElem? e
    rcases List.mem_append.mp this with z | z
    · obtain ⟨p, _, z⟩ := List.mem_map.mp z
      cases z
    · cases (List.mem_replicate.mp z).2
  have oo : ∀ a, OO O (L2.start N vs) (ps.map Slot.val ++ List.replicate (N.length - ps.length) Slot.un) a → O a := fun a z => by
    rcases z with z | ⟨i, qs, h1, _⟩
    · exact z
    · exact absurd h1 (noown i qs)
  refine ⟨by unfold L2.start; simp [hl], Same.refl H, al, fun i qs h => absurd h (noown i qs), fun i j a qs rs h => absurd h (noown i qs), fun i p h => ?_, fun i a h => by
    have := List.mem_of_getElem? h
    rcases List.mem_append.mp this with z | z
    · obtain ⟨p, _, z⟩ := List.mem_map.mp z
      cases z
    · cases (List.mem_replicate.mp z).2⟩
  by_cases hi : i < ps.length
  · rw [List.getElem?_append_left (by rw [List.length_map]; exact hi), List.getElem?_map] at h
    cases hq : ps[i]? with
    | none => rw [hq] at h; cases h
    | some q =>
      rw [hq] at h
      cases h
      obtain ⟨v, h1, h2⟩ := r.get hq
      refine ⟨v, ?_, h2.less oo⟩
      unfold L2.start
      rw [List.getElem?_append_left (by rw [List.length_map, hl]; exact hi), List.getElem?_map, h1]
      rfl
  · rw [List.getElem?_append_right (by rw [List.length_map]; omega)] at h
    have := List.mem_of_getElem? h
    cases (List.mem_replicate.mp this).2
section
variable {P : Program} {w : World} {K : PySem.W.Frag} {mg : Str → Option Value} {base : Heap}
theorem Fun_okN {x qual : Str} {st : Stmt} {f : Addr} {fd : FuncData} {N ps : List Str} {k : Nat} {sp : Sp} (F : Fun K x qual st f fd) (S : FnScope N ps (defScope st)) (len : ∀ vs H Q E, sp vs H Q E → vs.length = ps.length)
    (hbody : ∀ (cdv : Value) (A : Around) (outer : List PySem.Env) (s : Shared) (H : Hp) (vs : List V) (Q : VK) (E : XK), Room k (A.deeper (envOfC qual (defScope st) s.heap.objs.size f cdv)) → sp vs H Q E →
      ∃ t, PSs (cxOf (L2N.CX P w) P w K mg base N qual (defScope st) f cdv A outer s H E) (defBody st) t ∧ t { nx := fun _ H' => Q .non H', rt := Q } (L2.start N vs) H) : FnOk P w K mg base (L2N.CX P w) (k + 1) f fd ps sp := by
  obtain ⟨oc, od, kV, doc, pm, an, cdv, ct, osl, rfl, lk, hcd⟩ := F.ex
  exact fn_of lk hcd S len fun A outer s H vs Q E hr hsp => hbody cdv A outer s H vs Q E hr hsp
theorem fn_mk {x qual : Str} {st : Stmt} {f : Addr} {fd : FuncData} {N ps : List Str} {k n : Nat} {nw : Bool} {g : Rho → Out} (F : Fun K x qual st f fd) (S : FnScope N ps (defScope st)) (hn : n = ps.length) (hnw : nw = true → ∀ l, ∀ ρ, g l ≠ .next ρ)
    (hbody : ∀ (cdv : Value) (A : Around) (outer : List PySem.Env) (s : Shared) (H : Hp) (E : XK), Room k (A.deeper (envOfC qual (defScope st) s.heap.objs.size f cdv)) →
      BJ (cxOf (L2N.CX P w) P w K mg base N qual (defScope st) f cdv A outer s H E) (fun cls d _ H => E cls d H) nw (defBody st) g) :
    FnOk P w K mg base (L2N.CX P w) (k + 1) f fd ps (spF K mg n nw (runF N.length g)) := by
  refine Fun_okN F S (fun vs H Q E h => ?_) (fun cdv A outer s H vs Q E hr h => ?_)
  · obtain ⟨_, _, _, _, e, _⟩ := h
    rw [e, hn]
  · obtain ⟨qs, O, al, r, e, h⟩ := h
    refine ⟨_, hbody cdv A outer s H E hr, H, O, _, start_st al r, ?_⟩
    have h' : (match runF N.length g qs with
      | .ok p => ∀ v H', Same H H' → RepR K O nw H H' v p → Q v H'
      | .exc c => ∀ C H', Same H H' → mg c = some (.ref C) → E (.ref C) none H'
      | .stuck => False) := h
    unfold runF at h'
    revert h'
    cases hg : g (qs.map Slot.val ++ List.replicate (N.length - qs.length) Slot.un) with
    | ret p => exact fun h v H' s r => h v H' s r
    | next ρ' =>
      intro h σ' H' S' _
      cases nw with
      | false => exact h _ _ S'.same .non
      | true => exact absurd hg (hnw rfl _ _)
    | exc c ρ' => exact fun h C σ' H' e S' _ => h C H' S'.same e
    | brk ρ' => exact False.elim
    | cont ρ' => exact False.elim
    | stuck => exact False.elim
/-- from inside a def: what a body's statements need of its context -/
theorem tk_of {N : List Str} {qual : Str} {scope : Scope} {f : Addr} {cdv : Value} {A : Around} {outer : List PySem.Env} {s : Shared} {H : Hp} {E : XK} : L2N.Takes (cxOf (L2N.CX P w) P w K mg base N qual scope f cdv A outer s H E) (fun cls d _ H => E cls d H) := L2N.takes_of rfl rfl rfl rfl
theorem hp_of {N : List Str} {qual : Str} {scope : Scope} {f : Addr} {cdv : Value} {A : Around} {outer : List PySem.Env} {s : Shared} {H : Hp} {E : XK} : PassesOwn (model P w) (cxOf (L2N.CX P w) P w K mg base N qual scope f cdv A outer s H E).A (cxOf (L2N.CX P w) P w K mg base N qual scope f cdv A outer s H E).env (cxOf (L2N.CX P w) P w K mg base N qual scope f cdv A outer s H E).xe := passes_of rfl
end
structure DefT (K : PySem.W.Frag) (mg : Str → Option Value) (x : Str) (st : Stmt) (ps : List Str) (f : Addr) (fd : FuncData) : Prop where
  F : Fun K x x st f fd
  g : mg x = some (.ref f)
  b : L2.Binds K fd ps []
def DefE (K : PySem.W.Frag) (mg : Str → Option Value) (x : Str) (st : Stmt) (ps : List Str) : Prop := ∃ f fd, DefT K mg x st ps f fd
def Okd (P : Program) (w : World) (K : PySem.W.Frag) (mg : Str → Option Value) (base : Heap) (x : Str) (ps : List Str) (k n : Nat) (nw : Bool) (F : List PV → R PV) : Prop :=
  ∃ f fd, mg x = some (.ref f) ∧ PySem.W.keepIn K (.ref f) = true ∧ L2.Binds K fd ps [] ∧ FnOk P w K mg base (L2N.CX P w) k f fd ps (spF K mg n nw F)
section
variable {P : Program} {w : World} {K : PySem.W.Frag} {mg : Str → Option Value} {base : Heap}
theorem def_ok {x : Str} {st : Stmt} {N ps : List Str} {k n : Nat} {nw : Bool} {g : Rho → Out} (T : DefE K mg x st ps) (S : FnScope N ps (defScope st)) (hn : n = ps.length) (hnw : nw = true → ∀ l, ∀ ρ, g l ≠ .next ρ)
    (hbody : ∀ (f : Addr) (cdv : Value) (A : Around) (outer : List PySem.Env) (s : Shared) (H : Hp) (E : XK), Room k (A.deeper (envOfC x (defScope st) s.heap.objs.size f cdv)) →
      BJ (cxOf (L2N.CX P w) P w K mg base N x (defScope st) f cdv A outer s H E) (fun cls d _ H => E cls d H) nw (defBody st) g) :
    Okd P w K mg base x ps (k + 1) n nw (runF N.length g) := by
  obtain ⟨f, fd, T⟩ := T
  exact ⟨f, fd, T.g, T.F.kp, T.b, fn_mk T.F S hn hnw (hbody f)⟩
variable {X : Cx} {W : WX} {e : Expr} {es : List Expr} {pos p : Pos} {fA : Rho → R (List PV)}
theorem aCons_len {f : Rho → R PV} {g : Rho → R (List PV)} {n : Nat} (h : ∀ ρ ps, g ρ = .ok ps → ps.length = n) : ∀ ρ ps, aCons f g ρ = .ok ps → ps.length = n + 1 := by
  intro ρ ps e
  unfold aCons at e
  revert e
  cases f ρ with
  | ok a =>
    rw [R.bind_ok]
    cases hg : g ρ with
    | ok qs =>
      intro e
      cases e
      rw [List.length_cons, h ρ qs hg]
    | exc c => exact fun e => nomatch e
    | stuck => exact fun e => nomatch e
  | exc c => exact fun e => nomatch e
  | stuck => exact fun e => nomatch e
theorem aNil_len : ∀ ρ ps, aNil ρ = .ok ps → ps.length = 0 := by
  intro ρ ps e
  cases e
  rfl
/-- the parts' lengths, read off the syntax -/
inductive ALen : (Rho → R (List PV)) → Nat → Prop where
  | nil : ALen aNil 0
  | cons {f : Rho → R PV} {g : Rho → R (List PV)} {n : Nat} : ALen g n → ALen (aCons f g) (n + 1)
theorem ALen.ok {g : Rho → R (List PV)} {n : Nat} (h : ALen g n) : ∀ ρ ps, g ρ = .ok ps → ps.length = n := by
  induction h with
  | nil => exact aNil_len
  | cons _ ih => exact aCons_len ih
theorem e_callD {x : Str} {k j n : Nat} {nw : Bool} {F : List PV → R PV} {pn : List Str} (h : Okd X.prog X.w X.K X.mg X.base x pn j n nw F) (hr : Room k X.A) (hjk : j ≤ k) (tk : L2N.Takes X W) (hg : Gl X x) (ha : AJ X W .s (e :: es) fA) (hal : ALen fA n) (hlen : n = es.length + 1 := by rfl) (hdb : (x == ("__debug__" : Str)) = false := by decide)
    (he : starEach (e :: es) X.env = (false, eval e X.env) :: starEach es X.env := by rfl) (hpl : (backTo pos (starEach es X.env)).any (·.1) = false := by rfl) : EJ X W (mdR nw) (.Call (.Name x p) (e :: es) [] pos) (eD F fA) := by
  obtain ⟨f, fd, h1, h2, h3, h4⟩ := h
  have q := e_call (p := p) (pos := pos) (dvs := []) (dps := []) (ds := []) h4 (hr.mono hjk) hg h1 h2 h3 .nil (fun _ _ => .nil) tk ha (by rw [hlen]; rfl) (by rw [← hlen]; exact hal.ok) hdb he hpl
  have e' : eD (fun ps => F (ps ++ [])) fA = eD F fA := by
    funext ρ
    unfold eD
    congr
    funext ps
    rw [List.append_nil]
  rw [e'] at q
  exact q
end
/-- the law's own promise: of the script -/
def spLaw (K : PySem.W.Frag) : Sp := fun vs H Q _ => ∃ (a : Addr) (ns : List Int), vs = [.ref a] ∧ SqL K H a (ns.map V.int) ∧ Only H ∧ ns.length ≤ 63 ∧ (∀ z ∈ ns, Builtin.Int.intBits z ≤ 1048576) ∧ ∀ v H', v = .bl true → Q v H'
theorem bits_log {z : Int} (h : Builtin.Int.intBits z ≤ 1048576) : z.natAbs.log2 < 1048577 := by
  unfold Builtin.Int.intBits at h
  split at h
  · rename_i e
    have e : z.natAbs = 0 := by simpa using e
    rw [e, Nat.log2_zero]; omega
  · omega
/-- bits: each of the script's numbers has at most 2 ^ 20 of them -/
theorem law_impB {P : Program} {w : World} {K : PySem.W.Frag} {mg : Str → Option Value} {base : Heap} {k : Nat} {f : Addr} {fd : FuncData} {ps : List Str} {F : List PV → R PV} (hF : ∀ ns : List Int, ns.length ≤ 63 → (∀ z ∈ ns, z.natAbs.log2 < 1048577) → F [.frz (ns.map PV.int)] = .ok (.bl true))
    (h : FnOk P w K mg base (L2N.CX P w) k f fd ps (spF K mg 1 false F)) : FnOk P w K mg base (L2N.CX P w) k f fd ps (spLaw K) := by
  refine h.imp fun vs H Q E ⟨a, ns, e1, hs, ho, hl, hb, q⟩ => ?_
  subst e1
  refine ⟨[.frz (ns.map PV.int)], fun _ => False, fun _ z => z.elim, .cons (.frz ?_) .nil, rfl, ?_⟩
  · rcases hs with (hs | hs) | hs
    · rcases ho a with z | ⟨o, xs, z⟩
      · rw [z] at hs; cases hs
      · rw [z] at hs; cases hs
    · exact .inl ⟨hs, fun z => z⟩
    · exact .inr fun _ => .inr hs
  · rw [hF ns hl fun z hz => bits_log (hb z hz)]
    intro v H' s r
    cases r
    exact q _ _ rfl
theorem cx_none {P : Program} {w : World} {H : Hp} {s : Shared} {e : Value} {s' : Shared} (h : L2N.CX P w [] H s (fun _ _ _ => False) e s') : False := by
  obtain ⟨_, _, _, _, _, _, _, _, _, _, _, _, z⟩ := h
  exact z
end PL
set_option Elab.async false
set_option linter.all false
set_option maxRecDepth 100000
set_option autoImplicit false
namespace PL
open PySem PySem.Spec L2
open PyProof.Rows hiding St
section
variable {X : Cx} {W : WX} {e a b c : Expr} {pos p : Pos} {f g : Rho → R PV} {es : List Expr} {fA : Rho → R (List PV)}
/-- a constant of the text's top -/
def GlI (mg : Str → Option Value) (x : Str) (i : Int) : Prop := ∃ t, mg x = some (.int i t)
theorem e_glI {x : Str} {i : Int} (h : GlI X.mg x i) (hg : Gl X x) (hd : (x == ("__debug__" : Str)) = false := by decide) : EJ X W .s (.Name x pos) (eC (.int i)) := by
  obtain ⟨t, h⟩ := h
  exact e_const (pe_glob hg h (v := .int i) ⟨t, rfl⟩ hd) fun _ _ _ => .int i
end
section
variable {K : PySem.W.Frag} {h : Heap} {mg : Str → Option Value}
theorem defE_mk (X : K.In h) (G : h.Ns mainGlobals mg) {x : Str} {st : Stmt} {ps : List Str} {f : Addr} {od an : Option Addr} {sl : Array (Option Value)} {oc kV dc pm cd ct : Value}
    (a : PySem.W.nsIn K mainGlobals x = some (some (.ref f))) (l : K.lookup f = some ⟨oc, od, .func (PySem.W.fnOf x x (defArgs st) (defBody st) (defScope st) .none kV dc pm an cd ct), sl⟩) (c : PySem.W.codeIn K cd x = true) (k : PySem.W.keepIn K (.ref f) = true)
    (hb : ∀ (kV doc pm : Value) (an : Option Addr) (cdv ct : Value) (us : List Value), us.length = ps.length → bindArgs (PySem.W.fnOf x x (defArgs st) (defBody st) (defScope st) .none kV doc pm an cdv ct) ⟨us, []⟩ = pure (ps.zip us)) : DefE K mg x st ps :=
  ⟨f, _, fun_mk l c k, PySem.W.mg_of X G a, (fun_mk l c k).binds hb⟩
theorem glI_mk (X : K.In h) (G : h.Ns mainGlobals mg) {x : Str} {i : Int} {t : Tok} (a : PySem.W.nsIn K mainGlobals x = some (some (.int i t))) : GlI mg x i := ⟨t, PySem.W.mg_of X G a⟩
theorem excE_mk (X : K.In h) (G : h.Ns mainGlobals mg) {x : Str} {C : Addr} (a : PySem.W.nsIn K mainGlobals x = some (some (.ref C))) (ex : PySem.W.excIn K C [.type "ValueError", .type "Exception", .type "BaseException", .type "object"] "ValueError.__new__" = true)
    (kp : PySem.W.keepIn K (.ref C) = true) (sb : PySem.W.subIn K (.ref C) (.type "BaseException") = some true) (ty : PySem.W.typeIn K (.ref C) = some (.type "type")) : ∃ C, ExcT K mg x C := ⟨C, PySem.W.mg_of X G a, ex, kp, sb, ty⟩
end
end PL
set_option Elab.async false
set_option linter.all false
set_option maxRecDepth 100000
set_option autoImplicit false
namespace PL
open PySem PySem.Spec L2
open PyProof.Rows hiding St
def isX (i : Nat) (a : Addr) (b : Bool) : Rho → R PV := fun ρ => match ρ[i]? with
  | some (.ex a') => if a' = a then .ok (.bl b) else .stuck
  | _ => .stuck
/-- the call of such a def -/
def hotC (i : Nat) (a : Addr) (F : Addr → R PV) : Rho → R PV := fun ρ => match ρ[i]? with
  | some (.ex a') => if a' = a then (match F a with
    | .ok p => .ok p
    | _ => .stuck) else .stuck
  | _ => .stuck
/-- behind the suite -/
def behindX (i : Nat) : Out → Out
  | .next ρ => .next (ρ.set i .un)
  | .brk ρ => .brk (ρ.set i .un)
  | .cont ρ => .cont (ρ.set i .un)
  | .ret p => .ret p
  | _ => .stuck
theorem takesN {X : Cx} : L2N.Takes X (fun _ _ _ _ => False) := fun _ _ x => by
  obtain ⟨_, _, _, _, _, _, _, _, _, _, _, _, _, _, _, _, z⟩ := x
  exact z.elim
end PL
set_option Elab.async false
set_option linter.all false
set_option maxRecDepth 100000
set_option autoImplicit false
namespace PL
open PySem PySem.Spec L2
open PyProof.Rows hiding St
end PL
set_option Elab.async false
set_option linter.all false
set_option maxRecDepth 100000
set_option autoImplicit false
namespace PL
open PySem PySem.Spec L2
open PyProof.Rows hiding St
end PL
set_option Elab.async false
set_option linter.all false
set_option maxRecDepth 100000
set_option autoImplicit false
namespace PL
open PySem PySem.Spec L2
open PyProof.Rows hiding St
end PL
set_option Elab.async false
set_option linter.all false
set_option maxRecDepth 100000
set_option autoImplicit false
namespace PL
open PySem PySem.Spec L2
open PyProof.Rows hiding St
/-- an equation that is not taken for a computation -/
theorem nr {α : Sort _} {a b : α} (h : a = b) : a = b := h
section
variable {p q x y : PV} {ρ : Rho} {f g h : Rho → R PV} {i j : Nat} {a b c : Int} {k l : Bool} {ps qs : List PV} {s t : Slot}
@[simp] theorem eC_eq : eC p ρ = .ok p := nr rfl
@[simp] theorem eV0 : eV 0 (.val p :: ρ) = .ok p := nr rfl
@[simp] theorem eVs : eV (i + 1) (s :: ρ) = eV i ρ := by simp [eV]
@[simp] theorem eVo0 : eVo 0 (.val p :: ρ) = .ok p := nr rfl
@[simp] theorem eVo0' : eVo 0 (.own ps :: ρ) = .ok (.lst ps) := nr rfl
@[simp] theorem eVos : eVo (i + 1) (s :: ρ) = eVo i ρ := by simp [eVo]
@[simp] theorem bind1 {α β : Type} (a : α) (k : α → R β) : (R.ok a).bind k = k a := nr rfl
@[simp] theorem bind2 {α β : Type} (c : Str) (k : α → R β) : (R.exc c : R α).bind k = .exc c := nr rfl
@[simp] theorem bind3 {α β : Type} (k : α → R β) : (R.stuck : R α).bind k = .stuck := nr rfl
@[simp] theorem e2_eq {w : PV → PV → R PV} : e2 w f g ρ = (f ρ).bind fun x => (g ρ).bind fun y => w x y := nr rfl
@[simp] theorem e1_eq {w : PV → R PV} : e1 w f ρ = (f ρ).bind w := nr rfl
@[simp] theorem eD_eq {w : List PV → R PV} {fA : Rho → R (List PV)} : eD w fA ρ = (fA ρ).bind w := nr rfl
@[simp] theorem aNil_eq : aNil ρ = .ok [] := nr rfl
@[simp] theorem aCons_eq {fA : Rho → R (List PV)} : aCons f fA ρ = (f ρ).bind fun p => (fA ρ).bind fun ps => .ok (p :: ps) := nr rfl
@[simp] theorem tB1_eq : tB1 f ρ = (f ρ).bind asB := nr rfl
@[simp] theorem asB_eq : asB (.bl k) = .ok k := nr rfl
@[simp] theorem asI_eq : asI (.int a) = .ok a := nr rfl
@[simp] theorem tNt_eq {u : Rho → R Bool} : tNt u ρ = (u ρ).bind fun b => .ok (!b) := nr rfl
@[simp] theorem tAn_eq {u v : Rho → R Bool} : tAn u v ρ = (u ρ).bind fun b => if b = true then v ρ else .ok false := nr rfl
@[simp] theorem tOr_eq {u v : Rho → R Bool} : tOr' u v ρ = (u ρ).bind fun b => if b = true then .ok true else v ρ := nr rfl
@[simp] theorem eAn_eq : eAn f g ρ = (f ρ).bind fun p => (asB p).bind fun b => if b = true then g ρ else .ok (.bl false) := nr rfl
@[simp] theorem eOr_eq : eOr f g ρ = (f ρ).bind fun p => (asB p).bind fun b => if b = true then .ok (.bl true) else g ρ := nr rfl
@[simp] theorem notP_eq : notP (.bl k) = .ok (.bl (!k)) := nr rfl
@[simp] theorem negP_eq : negP (.int a) = .ok (.int (-a)) := nr rfl
@[simp] theorem eIf_eq {u : Rho → R Bool} : eIf u f g ρ = (u ρ).bind fun b => if b = true then f ρ else g ρ := nr rfl
@[simp] theorem eChain_eq {w1 w2 : PV → PV → R PV} : eChain w1 w2 f g h ρ = (f ρ).bind fun x => (g ρ).bind fun y => (w1 x y).bind fun z => (asB z).bind fun k => if k = true then (h ρ).bind fun w => w2 y w else .ok (.bl false) := nr rfl
@[simp] theorem addP_ii : addP (.int a) (.int b) = .ok (.int (a + b)) := nr rfl
@[simp] theorem iadd_ii : intP (fun _ _ => true) (fun a b => PV.int (a + b)) (.int a) (.int b) = .ok (.int (a + b)) := nr rfl
@[simp] theorem subP_ii : subP (.int a) (.int b) = .ok (.int (a - b)) := nr rfl
@[simp] theorem ltP_ii : ltP (.int a) (.int b) = .ok (.bl (decide (a < b))) := nr rfl
@[simp] theorem leP_ii : leP (.int a) (.int b) = .ok (.bl (decide (a ≤ b))) := nr rfl
@[simp] theorem gtP_ii : gtP (.int a) (.int b) = .ok (.bl (decide (b < a))) := nr rfl
@[simp] theorem geP_ii : geP (.int a) (.int b) = .ok (.bl (decide (b ≤ a))) := nr rfl
theorem mulP_ii (h : okMul a b = true) : mulP (.int a) (.int b) = .ok (.int (a * b)) := by
  show (if okMul a b = true then _ else _) = _
  rw [if_pos h]
theorem modP_ii (h : b ≠ 0) : modP (.int a) (.int b) = .ok (.int (a.fmod b)) := by
  show (if decide (b ≠ 0) = true then _ else _) = _
  rw [if_pos (decide_eq_true h)]
theorem modP_pos (h : 0 < b) : modP (.int a) (.int b) = .ok (.int (a % b)) := by
  rw [modP_ii (by omega), Int.fmod_eq_emod_of_nonneg a (by omega)]
theorem log2_lt {n m : Nat} (h : n < 2 ^ m) (hm : 0 < m) : n.log2 < m := by
  by_cases h0 : n = 0
  · subst h0; simpa using hm
  · exact (Nat.log2_lt h0).mpr h
theorem fdivP_ii (h : b ≠ 0) (h2 : b.natAbs < 2 ^ 9000) : fdivP (.int a) (.int b) = .ok (.int (a.fdiv b)) := by
  show (if okDiv a b = true then _ else _) = _
  have h3 : b.natAbs.log2 < 9000 := log2_lt h2 (by omega)
  rw [if_pos]
  show (decide (b ≠ 0) && decide (b.natAbs.log2 < 9000)) = true
  rw [decide_eq_true h, decide_eq_true h3] <;> rfl
theorem fdivP_pos (h : 0 < b) (h2 : b < 2 ^ 9000) : fdivP (.int a) (.int b) = .ok (.int (a / b)) := by
  rw [fdivP_ii (by omega) (by omega), Int.fdiv_eq_ediv_of_nonneg a (by omega)]
theorem divmodP_pos (h : 0 < b) (h2 : b < 2 ^ 9000) : divmodP [.int a, .int b] = .ok (.tup [.int (a / b), .int (a % b)]) := by
  unfold divmodP
  dsimp only
  have h3 : b.natAbs.log2 < 9000 := log2_lt (by omega) (by omega)
  rw [if_pos ⟨h, h3⟩]
theorem okMul_of {m n : Nat} (ha : a.natAbs < 2 ^ m) (hb : b.natAbs < 2 ^ n) (h : m + n ≤ 100000000) (hm : 0 < m) (hn : 0 < n) : okMul a b = true := by
  have h1 := log2_lt ha hm
  have h2 := log2_lt hb hn
  exact decide_eq_true (by omega)
theorem powP_ii (h0 : 0 ≤ b) (h1 : b ≤ 1000000) (h2 : a.natAbs < 2 ^ 64) : powP (.int a) (.int b) = .ok (.int (a ^ b.toNat)) := by
  show (if okPow a b = true then _ else _) = _
  rw [if_pos]
  show (decide (0 ≤ b) && decide (b ≤ 1000000) && decide (a.natAbs < 2 ^ 64)) = true
  rw [decide_eq_true h0, decide_eq_true h1, decide_eq_true h2] <;> rfl
/-- what may be compared -/
@[simp] theorem okD_int {n : Nat} : okD n (.int a) = true := by cases n <;> rfl
@[simp] theorem okD_bl {n : Nat} : okD n (.bl k) = true := by cases n <;> rfl
@[simp] theorem okD_non {n : Nat} : okD n .non = true := by cases n <;> rfl
@[simp] theorem okD_lst {n : Nat} : okD (n + 1) (.lst ps) = ps.all (okD n) := nr rfl
@[simp] theorem okD_tup {n : Nat} : okD (n + 1) (.tup ps) = ps.all (okD n) := nr rfl
@[simp] theorem okD_frz {n : Nat} : okD (n + 1) (.frz ps) = ps.all (okD n) := nr rfl
@[simp] theorem okD_str {n : Nat} {z : Str} : okD n (.str z) = PyData.strOk z := by cases n <;> rfl
@[simp] theorem eqV_ii : eqV' (.int a) (.int b) = (a == b) := by simp only [eqV']
@[simp] theorem eqV_bb : eqV' (.bl k) (.bl l) = (k == l) := by simp only [eqV']
@[simp] theorem eqV_ss {u v : Str} : eqV' (.str u) (.str v) = (u == v) := by simp only [eqV']
@[simp] theorem eqV_ll : eqV' (.lst ps) (.lst qs) = eqVs ps qs := by simp only [eqV']
@[simp] theorem eqV_tt : eqV' (.tup ps) (.tup qs) = eqVs ps qs := by simp only [eqV']
@[simp] theorem eqVs_nn : eqVs [] [] = true := by simp only [eqVs]
@[simp] theorem eqVs_cc : eqVs (p :: ps) (q :: qs) = (eqV' p q && eqVs ps qs) := by simp only [eqVs]
@[simp] theorem eqVs_cn : eqVs (p :: ps) [] = false := by simp only [eqVs]
@[simp] theorem eqVs_nc : eqVs [] (q :: qs) = false := by simp only [eqVs]
theorem eqP_ok (h : okD 30 p = true) (h2 : okD 30 q = true) : eqP p q = .ok (.bl (eqV' p q)) := by
  unfold eqP; rw [h, h2, Bool.and_self, if_pos rfl]
theorem neP_ok (h : okD 30 p = true) (h2 : okD 30 q = true) : neP p q = .ok (.bl (!eqV' p q)) := by
  unfold neP; rw [h, h2, Bool.and_self, if_pos rfl]
@[simp] theorem eqP_ii : eqP (.int a) (.int b) = .ok (.bl (a == b)) := by rw [eqP_ok okD_int okD_int, eqV_ii]
@[simp] theorem neP_ii : neP (.int a) (.int b) = .ok (.bl (!(a == b))) := by rw [neP_ok okD_int okD_int, eqV_ii]
@[simp] theorem eqP_bb : eqP (.bl k) (.bl l) = .ok (.bl (k == l)) := by rw [eqP_ok okD_bl okD_bl, eqV_bb]
@[simp] theorem neP_bb : neP (.bl k) (.bl l) = .ok (.bl (!(k == l))) := by rw [neP_ok okD_bl okD_bl, eqV_bb]
theorem eqVs_ints : ∀ ns ms : List Int, eqVs (ns.map PV.int) (ms.map PV.int) = (ns == ms)
  | [], [] => by simp
  | [], _ :: _ => by simp
  | _ :: _, [] => by simp
  | n :: ns, m :: ms => by simp only [List.map_cons, eqVs_cc, eqV_ii, eqVs_ints ns ms]; rfl
/-- kinds -/
@[simp] theorem isi_ii : isiP "int" (.int a) = .ok (.bl true) := by have e : kitB "int" "int" = some true := by decide +kernel
                                                                    unfold isiP tyN; rw [e]
@[simp] theorem isi_ib : isiP "int" (.bl k) = .ok (.bl true) := by have e : kitB "bool" "int" = some true := by decide +kernel
                                                                   unfold isiP tyN; rw [e]
@[simp] theorem isi_in : isiP "int" .non = .ok (.bl false) := by have e : kitB "NoneType" "int" = some false := by decide +kernel
                                                                 unfold isiP tyN; rw [e]
@[simp] theorem isi_is {z : Str} : isiP "int" (.str z) = .ok (.bl false) := by have e : kitB "str" "int" = some false := by decide +kernel
                                                                               unfold isiP tyN; rw [e]
@[simp] theorem isi_it : isiP "int" (.tup ps) = .ok (.bl false) := by have e : kitB "tuple" "int" = some false := by decide +kernel
                                                                      unfold isiP tyN; rw [e]
@[simp] theorem isi_il : isiP "int" (.lst ps) = .ok (.bl false) := by have e : kitB "list" "int" = some false := by decide +kernel
                                                                      unfold isiP tyN; rw [e]
@[simp] theorem isi_if : isiP "int" (.frz ps) = .ok (.bl false) := by have e : kitB "list" "int" = some false := by decide +kernel
                                                                      unfold isiP tyN; rw [e]
@[simp] theorem isi_id : isiP "int" .dct = .ok (.bl false) := by have e : kitB "dict" "int" = some false := by decide +kernel
                                                                 unfold isiP tyN; rw [e]
@[simp] theorem isi_bi : isiP "bool" (.int a) = .ok (.bl false) := by have e : kitB "int" "bool" = some false := by decide +kernel
                                                                      unfold isiP tyN; rw [e]
@[simp] theorem isi_bb : isiP "bool" (.bl k) = .ok (.bl true) := by have e : kitB "bool" "bool" = some true := by decide +kernel
                                                                    unfold isiP tyN; rw [e]
def isT : PV → Bool
  | .tup _ => true
  | _ => false
def isL : PV → Bool
  | .lst _ | .frz _ => true
  | _ => false
theorem isi_tuple : isiP "tuple" p = .ok (.bl (isT p)) := by
  have e1 : kitB "NoneType" "tuple" = some false := by decide +kernel
  have e2 : kitB "bool" "tuple" = some false := by decide +kernel
  have e3 : kitB "int" "tuple" = some false := by decide +kernel
  have e4 : kitB "str" "tuple" = some false := by decide +kernel
  have e5 : kitB "tuple" "tuple" = some true := by decide +kernel
  have e6 : kitB "list" "tuple" = some false := by decide +kernel
  have e7 : kitB "dict" "tuple" = some false := by decide +kernel
  cases p <;> simp [isiP, tyN, e1, e2, e3, e4, e5, e6, e7, isT]
def isB : PV → Bool
  | .bl _ => true
  | _ => false
theorem isi_bool : isiP "bool" p = .ok (.bl (isB p)) := by
  have e1 : kitB "NoneType" "bool" = some false := by decide +kernel
  have e2 : kitB "bool" "bool" = some true := by decide +kernel
  have e3 : kitB "int" "bool" = some false := by decide +kernel
  have e4 : kitB "str" "bool" = some false := by decide +kernel
  have e5 : kitB "tuple" "bool" = some false := by decide +kernel
  have e6 : kitB "list" "bool" = some false := by decide +kernel
  have e7 : kitB "dict" "bool" = some false := by decide +kernel
  cases p <;> simp [isiP, tyN, e1, e2, e3, e4, e5, e6, e7, isB]
/-- whole numbers -/
def isW : PV → Bool
  | .int _ => true
  | _ => false
/-- the body of is_whole, of the laws' own -/
@[simp] theorem isW_int (a : Int) : isW (.int a) = true := rfl
theorem whole_eq : (isiP "int" p).bind (fun x => (asB x).bind fun b => if b = true then (isiP "bool" p).bind notP else .ok (.bl false)) = .ok (.bl (isW p)) := by
  rw [isi_bool]
  cases p <;> simp [isW, isB]
/-- statements -/
@[simp] theorem then_next {k : Rho → Out} : (Out.next ρ).then k = k ρ := nr rfl
@[simp] theorem then_ret {k : Rho → Out} : (Out.ret p).then k = .ret p := nr rfl
@[simp] theorem then_exc {k : Rho → Out} {z : Str} : (Out.exc z ρ).then k = .exc z ρ := nr rfl
@[simp] theorem then_stuck {k : Rho → Out} : Out.stuck.then k = .stuck := nr rfl
@[simp] theorem then_brk {k : Rho → Out} : (Out.brk ρ).then k = .brk ρ := nr rfl
@[simp] theorem then_cont {k : Rho → Out} : (Out.cont ρ).then k = .cont ρ := nr rfl
@[simp] theorem bNil_eq : bNil ρ = .next ρ := nr rfl
@[simp] theorem bSeq_eq {u v : Rho → Out} : bSeq u v ρ = (u ρ).then v := nr rfl
/-- an expression's end within a statement -/
def R.st (r : R PV) (ρ : Rho) (k : PV → Out) : Out := match r with
  | .ok p => k p
  | .exc c => .exc c ρ
  | .stuck => .stuck
@[simp] theorem st_ok {k : PV → Out} : (R.ok p).st ρ k = k p := nr rfl
@[simp] theorem st_exc {k : PV → Out} {z : Str} : (R.exc z).st ρ k = .exc z ρ := nr rfl
@[simp] theorem st_stuck {k : PV → Out} : (R.stuck : R PV).st ρ k = .stuck := nr rfl
@[simp] theorem sE_eq {k : PV → Rho → Out} : sE f k ρ = (f ρ).st ρ fun p => k p ρ := nr rfl
@[simp] theorem sSet_eq : sSet i f ρ = (f ρ).st ρ fun p => .next (ρ.set i (.val p)) := nr rfl
@[simp] theorem sRet_eq : sRet f ρ = (f ρ).st ρ fun p => .ret p := nr rfl
@[simp] theorem sDrop_eq : sDrop f ρ = (f ρ).st ρ fun _ => .next ρ := nr rfl
@[simp] theorem sRaise_eq {z : Str} : sRaise z ρ = .exc z ρ := nr rfl
@[simp] theorem sTo_eq {w : PV → Rho → Option Rho} : sTo w f ρ = (f ρ).st ρ fun p => match w p ρ with | some ρ' => .next ρ' | none => .stuck := nr rfl
def R.stB (r : R Bool) (ρ : Rho) (k : Bool → Out) : Out := match r with
  | .ok p => k p
  | .exc c => .exc c ρ
  | .stuck => .stuck
@[simp] theorem stB_ok {k : Bool → Out} {b : Bool} : (R.ok b).stB ρ k = k b := nr rfl
@[simp] theorem stB_exc {k : Bool → Out} {z : Str} : (R.exc z).stB ρ k = .exc z ρ := nr rfl
@[simp] theorem stB_stuck {k : Bool → Out} : (R.stuck : R Bool).stB ρ k = .stuck := nr rfl
@[simp] theorem sIf_eq {u : Rho → R Bool} {v w : Rho → Out} : sIf u v w ρ = (u ρ).stB ρ fun b => if b = true then v ρ else w ρ := by
  unfold sIf R.stB
  cases u ρ with
  | ok b => cases b <;> simp
  | exc c => rfl
  | stuck => rfl
def Out.res (o : Out) : R PV := match o with
  | .ret p => .ok p
  | .next _ => .ok .non
  | .exc c _ => .exc c
  | _ => .stuck
@[simp] theorem res_ret : (Out.ret p).res = .ok p := nr rfl
@[simp] theorem res_next : (Out.next ρ).res = .ok .non := nr rfl
@[simp] theorem res_exc {z : Str} : (Out.exc z ρ).res = .exc z := nr rfl
theorem runF_eq {n : Nat} {u : Rho → Out} : runF n u ps = (u (ps.map Slot.val ++ List.replicate (n - ps.length) Slot.un)).res := rfl
@[simp] theorem gN_eq : gN i p ρ = some (ρ.set i (.val p)) := nr rfl
@[simp] theorem gT_eql {w : List PV → Rho → Option Rho} : gT w (.lst ps) ρ = w ps ρ := nr rfl
@[simp] theorem gT_eq {w : List PV → Rho → Option Rho} : gT w (.tup ps) ρ = w ps ρ := nr rfl
@[simp] theorem gsNil_eq : gsNil [] ρ = some ρ := nr rfl
@[simp] theorem gsCons_eq {u : PV → Rho → Option Rho} {w : List PV → Rho → Option Rho} : gsCons u w (p :: ps) ρ = (u p ρ).bind (w ps) := nr rfl
@[simp] theorem sAug0 {w : PV → PV → R PV} : sAug i w f ρ = (match ρ[i]? with
  | some (.val x) => ((f ρ).bind fun y => w x y).st ρ fun z => .next (ρ.set i (.val z))
  | _ => .stuck) := nr rfl
@[simp] theorem lenP_l : lenP [.lst ps] = .ok (.int ps.length) := nr rfl
@[simp] theorem lenP_t : lenP [.tup ps] = .ok (.int ps.length) := nr rfl
@[simp] theorem lenP_f : lenP [.frz ps] = .ok (.int ps.length) := nr rfl
theorem size_ok {n : Nat} (h : n ≤ 1000000) : n ≤ sizeLine := by rw [sizeLine_eq]; omega
theorem lstP_ok (h : ps.length ≤ 1000000) : lstP ps = .ok (.lst ps) := by unfold lstP; rw [if_pos (size_ok h)]
theorem tupP_ok (h : ps.length ≤ 1000000) : tupP ps = .ok (.tup ps) := by unfold tupP; rw [if_pos (size_ok h)]
@[simp] theorem lstP0 : lstP [] = .ok (.lst []) := lstP_ok (by simp)
@[simp] theorem tupP0 : tupP [] = .ok (.tup []) := tupP_ok (by simp)
@[simp] theorem tupP1 : tupP [p] = .ok (.tup [p]) := tupP_ok (by simp)
@[simp] theorem tupP2 : tupP [p, q] = .ok (.tup [p, q]) := tupP_ok (by simp)
@[simp] theorem tupP3 : tupP [p, q, x] = .ok (.tup [p, q, x]) := tupP_ok (by simp)
@[simp] theorem lstP1 : lstP [p] = .ok (.lst [p]) := lstP_ok (by simp)
@[simp] theorem lstP2 : lstP [p, q] = .ok (.lst [p, q]) := lstP_ok (by simp)
@[simp] theorem lstP3 : lstP [p, q, x] = .ok (.lst [p, q, x]) := lstP_ok (by simp)
@[simp] theorem lstP4 : lstP [p, q, x, y] = .ok (.lst [p, q, x, y]) := lstP_ok (by simp)
/-- places -/
theorem atI_at {α : Type} {l : List α} (h0 : 0 ≤ a) : atI l a = l[a.toNat]? := by
  unfold atI ixN
  rw [if_pos h0]
  by_cases h : a < l.length
  · rw [if_pos h]; rfl
  · rw [if_neg h, List.getElem?_eq_none (by omega)]; rfl
theorem ixP_lst (h0 : 0 ≤ a) (h : ps[a.toNat]? = some p) : ixP (.lst ps) (.int a) = .ok p := by unfold ixP; dsimp only; rw [atI_at h0, h]
theorem ixP_tup (h0 : 0 ≤ a) (h : ps[a.toNat]? = some p) : ixP (.tup ps) (.int a) = .ok p := by unfold ixP; dsimp only; rw [atI_at h0, h]
theorem ixP_frz (h0 : 0 ≤ a) (h : ps[a.toNat]? = some p) : ixP (.frz ps) (.int a) = .ok p := by unfold ixP; dsimp only; rw [atI_at h0, h]
@[simp] theorem ixP_t0 : ixP (.tup (p :: ps)) (.int 0) = .ok p := ixP_tup (by omega) rfl
@[simp] theorem ixP_t1 : ixP (.tup (p :: q :: ps)) (.int 1) = .ok q := ixP_tup (by omega) rfl
@[simp] theorem ixP_t2 : ixP (.tup (p :: q :: x :: ps)) (.int 2) = .ok x := ixP_tup (by omega) rfl
@[simp] theorem ixP_l0 : ixP (.lst (p :: ps)) (.int 0) = .ok p := ixP_lst (by omega) rfl
@[simp] theorem ixP_l1 : ixP (.lst (p :: q :: ps)) (.int 1) = .ok q := ixP_lst (by omega) rfl
@[simp] theorem ixP_l2 : ixP (.lst (p :: q :: x :: ps)) (.int 2) = .ok x := ixP_lst (by omega) rfl
end
/-- one turn -/
def turnL (tgt : PV → Rho → Option Rho) (body : Rho → Out) (p : PV) (ρ : Rho) : Out := match tgt p ρ with
  | none => .stuck
  | some ρ1 => body ρ1
theorem forL_inv {tgt : PV → Rho → Option Rho} {body : Rho → Out} (I : Nat → Rho → Prop) : ∀ (items : List PV) (k : Nat) (ρ : Rho), I k ρ →
    (∀ j p ρ, items[j]? = some p → I (k + j) ρ → ∃ ρ', (turnL tgt body p ρ = .next ρ' ∨ turnL tgt body p ρ = .cont ρ') ∧ I (k + j + 1) ρ') → ∃ ρ', forL tgt body items ρ = .next ρ' ∧ I (k + items.length) ρ' := by
  intro items
  induction items with
  | nil => intro k ρ h _; exact ⟨ρ, rfl, h⟩
  | cons p ps ih =>
    intro k ρ h hs
    obtain ⟨ρ1, h1, h2⟩ := hs 0 p ρ rfl h
    obtain ⟨ρ2, h3, h4⟩ := ih (k + 1) ρ1 h2 fun j q ρ' hj hI => by
      have := hs (j + 1) q ρ' (by simpa using hj) (by rw [show k + (j + 1) = k + 1 + j by omega]; exact hI)
      rw [show k + 1 + j + 1 = k + (j + 1) + 1 by omega]
      exact this
    refine ⟨ρ2, ?_, by rw [List.length_cons, show k + (ps.length + 1) = k + 1 + ps.length by omega]; exact h4⟩
    unfold turnL at h1
    unfold forL
    revert h1
    cases tgt p ρ with
    | none => exact fun h1 => by rcases h1 with h1 | h1 <;> cases h1
    | some ρ1' =>
      dsimp only
      intro h1
      rcases h1 with h1 | h1 <;> (rw [h1]; exact h3)
/-- over a range -/
theorem forL_rng {tgt : PV → Rho → Option Rho} {body : Rho → Out} (I : Nat → Rho → Prop) (lo : Int) (n : Nat) (ρ : Rho) (h0 : I 0 ρ)
    (hs : ∀ (j : Nat) ρ, j < n → I j ρ → ∃ ρ', (turnL tgt body (.int (lo + j)) ρ = .next ρ' ∨ turnL tgt body (.int (lo + j)) ρ = .cont ρ') ∧ I (j + 1) ρ') : ∃ ρ', forL tgt body (rngL lo n) ρ = .next ρ' ∧ I n ρ' := by
  obtain ⟨ρ', h1, h2⟩ := forL_inv I (rngL lo n) 0 ρ h0 fun j p ρ hj hI => by
    unfold rngL at hj
    rw [List.getElem?_map] at hj
    cases hn : (List.range n)[j]? with
    | none => rw [hn] at hj; cases hj
    | some m =>
      rw [hn] at hj
      obtain ⟨g1, g2⟩ := List.getElem?_eq_some_iff.mp hn
      rw [List.getElem_range] at g2
      subst g2
      cases hj
      rw [List.length_range] at g1
      rw [Nat.zero_add] at hI ⊢
      exact hs j ρ g1 hI
  rw [rngL_len, Nat.zero_add] at h2
  exact ⟨ρ', h1, h2⟩
theorem sWh_inv {t : Rho → R Bool} {b : Rho → Out} (I : Rho → Prop) (μ : Rho → Nat) (Q : Rho → Prop) (hs : ∀ ρ, I ρ → (t ρ = .ok false ∧ Q ρ) ∨ (t ρ = .ok true ∧ ∃ ρ', (b ρ = .next ρ' ∨ b ρ = .cont ρ') ∧ I ρ' ∧ μ ρ' < μ ρ)) :
    ∀ (n : Nat) (ρ : Rho), μ ρ ≤ n → I ρ → ∃ ρ', sWh t b ρ = .next ρ' ∧ Q ρ' := by
  intro n
  induction n with
  | zero =>
    intro ρ hn h
    rcases hs ρ h with ⟨h1, h2⟩ | ⟨_, _, _, _, h3⟩
    · exact ⟨ρ, by rw [sWh_eq, h1], h2⟩
    · omega
  | succ n ih =>
    intro ρ hn h
    rcases hs ρ h with ⟨h1, h2⟩ | ⟨h1, ρ1, h2, h3, h4⟩
    · exact ⟨ρ, by rw [sWh_eq, h1], h2⟩
    · obtain ⟨ρ2, h5, h6⟩ := ih ρ1 (by omega) h3
      refine ⟨ρ2, ?_, h6⟩
      rw [sWh_eq, h1]
      rcases h2 with h2 | h2 <;> (rw [h2]; exact h5)
def R.stL (r : R (List PV)) (ρ : Rho) (k : List PV → Out) : Out := match r with
  | .ok p => k p
  | .exc c => .exc c ρ
  | .stuck => .stuck
@[simp] theorem stL_ok {k : List PV → Out} {l : List PV} {ρ : Rho} : (R.ok l).stL ρ k = k l := nr rfl
@[simp] theorem sFor_eq {it : Rho → R (List PV)} {tgt : PV → Rho → Option Rho} {body : Rho → Out} {ρ : Rho} : sFor it tgt body ρ = (it ρ).stL ρ fun items => forL tgt body items ρ := nr rfl
@[simp] theorem iR_eq {g : List PV → R (List PV)} {f : Rho → R (List PV)} {ρ : Rho} : iR g f ρ = (f ρ).bind g := nr rfl
@[simp] theorem iS_eq {f : Rho → R PV} {ρ : Rho} : iS f ρ = (f ρ).bind asS := nr rfl
@[simp] theorem iRv_eq {f : Rho → R PV} {ρ : Rho} : iRv f ρ = (f ρ).bind fun p => (asS p).bind fun l => .ok l.reverse := nr rfl
@[simp] theorem asS_l {l : List PV} : asS (.lst l) = .ok l := nr rfl
@[simp] theorem asS_t {l : List PV} : asS (.tup l) = .ok l := nr rfl
@[simp] theorem asS_f {l : List PV} : asS (.frz l) = .ok l := nr rfl
theorem inR_of {a : Int} (h1 : -1000000000000 ≤ a) (h2 : a ≤ 1000000000000) : inR a = true := inR_iff.mpr ⟨by omega, by omega⟩
theorem rng1_sm {a : Int} (h1 : -1000000000000 ≤ a) (h2 : a ≤ 1000000000000) : rng1 [.int a] = .ok (rngL 0 a.toNat) := by
  unfold rng1; dsimp only; rw [if_pos (inR_of h1 h2)]
theorem rng2_sm {a b : Int} (h1 : -1000000000000 ≤ a) (h2 : a ≤ 1000000000000) (h3 : -1000000000000 ≤ b) (h4 : b ≤ 1000000000000) : rng2 [.int a, .int b] = .ok (rngL a (b - a).toNat) := nr rfl
theorem rng2_all {a b : Int} : rng2 [.int a, .int b] = .ok (rngL a (b - a).toNat) := nr rfl
theorem lcGo_map {tgt : PV → Rho → Option Rho} {elt : Rho → R PV} {ρ : Rho} (φ : PV → PV) : ∀ (items : List PV), (∀ p ∈ items, ∃ ρ', tgt p ρ = some ρ' ∧ elt ρ' = .ok (φ p)) → lcGo tgt cYes elt ρ items = .ok (items.map φ)
  | [], _ => rfl
  | p :: ps, h => by
    obtain ⟨ρ', h1, h2⟩ := h p List.mem_cons_self
    have ih := lcGo_map φ ps fun q hq => h q (List.mem_cons_of_mem _ hq)
    unfold lcGo
    rw [h1]
    dsimp only [cYes]
    rw [h2]
    dsimp only
    rw [ih]
    rfl
theorem eLc_ok {vs : List Nat} {it : Rho → R (List PV)} {tgt : PV → Rho → Option Rho} {test : Rho → R Bool} {elt : Rho → R PV} {ρ : Rho} {items qs : List PV} (h1 : vs.all (notOwn ρ) = true) (h2 : it ρ = .ok items) (h3 : items.length ≤ 1000000) (h4 : lcGo tgt test elt (wipeR ρ vs) items = .ok qs) : eLc vs it tgt test elt ρ = .ok (.lst qs) := by
  unfold eLc
  rw [if_pos h1, h2, bind1, if_pos (size_ok h3), h4]
end PL
namespace PL
open PySem PySem.Spec L2
open PyProof.Rows hiding St
section
variable {a b : Int} {p : PV} {ps : List PV}
theorem fdivP_sm (h : 0 < b) (h2 : b ≤ 1000000000000000000000000000000000000000000000000000000000000) : fdivP (.int a) (.int b) = .ok (.int (a / b)) := fdivP_ii (by omega) (by omega) |>.trans (by rw [Int.fdiv_eq_ediv_of_nonneg a (by omega)])
theorem mulP_sm (h : -1000000000000000000000000000000000000000000000000000000000000 ≤ a) (h2 : a ≤ 1000000000000000000000000000000000000000000000000000000000000) (h3 : -1000000000000000000000000000000000000000000000000000000000000 ≤ b) (h4 : b ≤ 1000000000000000000000000000000000000000000000000000000000000) : mulP (.int a) (.int b) = .ok (.int (a * b)) :=
  mulP_ii (okMul_of (m := 250) (n := 250) (by omega) (by omega) (by omega) (by omega) (by omega))
/-- the item at a place, 0 beyond -/
def nth (l : List Int) (a : Int) : Int := l.getD a.toNat 0
theorem nth_mem {l : List Int} (h0 : 0 ≤ a) (h : a < l.length) : nth l a ∈ l := by
  unfold nth
  rw [List.getD_eq_getElem?_getD, List.getElem?_eq_getElem (by omega)]
  exact List.getElem_mem _
theorem getD_map (ns : List Int) (k : Nat) (h : k < ns.length) : (ns.map PV.int)[k]? = some (.int (ns.getD k 0)) := by
  rw [List.getElem?_map, List.getElem?_eq_getElem h, List.getD_eq_getElem?_getD, List.getElem?_eq_getElem h]
  rfl
/-- an item of a written list of ints -/
theorem ixP_ints {ns : List Int} (h0 : 0 ≤ a) (h : a < ns.length) : ixP (.lst (ns.map PV.int)) (.int a) = .ok (.int (nth ns a)) := ixP_lst h0 (getD_map ns _ (by omega))
theorem ixP_intsF {ns : List Int} (h0 : 0 ≤ a) (h : a < ns.length) : ixP (.frz (ns.map PV.int)) (.int a) = .ok (.int (nth ns a)) := ixP_frz h0 (getD_map ns _ (by omega))
end
end PL
namespace PL
open PySem PySem.Spec L2
open PyProof.Rows hiding St
end PL
namespace PL
open PySem PySem.Spec L2
open PyProof.Rows hiding St
theorem set_self {ρ : Rho} {i : Nat} {s : Slot} (h : ρ[i]? = some s) : ρ.set i s = ρ := by
  refine List.ext_getElem? fun j => ?_
  by_cases e : i = j
  · subst e; rw [List.getElem?_set_self (List.getElem?_eq_some_iff.mp h).1, h]
  · rw [List.getElem?_set_ne e]
theorem eVo_of {ρ : Rho} {i : Nat} {p : PV} (h : ρ[i]? = some (.val p)) : eVo i ρ = .ok p := by unfold eVo; rw [h]
theorem pow_bound {a : Int} {m : Nat} (h : a.natAbs < 2 ^ m) : ∀ n : Nat, (a ^ n).natAbs < 2 ^ (m * n + 1)
  | 0 => by simp
  | n + 1 => by
    have ih := pow_bound h n
    rw [Int.pow_succ, Int.natAbs_mul, Nat.mul_succ, show m * n + m + 1 = (m * n + 1) + m by omega, Nat.pow_add]
    exact Nat.mul_lt_mul'' ih h
theorem mul_bound {a b : Int} {m n : Nat} (h : a.natAbs < 2 ^ m) (g : b.natAbs < 2 ^ n) : (a * b).natAbs < 2 ^ (m + n) := by
  rw [Int.natAbs_mul, Nat.pow_add]
  exact Nat.mul_lt_mul'' h g
/-- the turn's name behind a loop over range(n) -/
def lastS (ρ : Rho) (a n : Nat) : Slot := if n = 0 then ρ.getD a .un else .val (.int ((n : Int) - 1))
theorem lastS_succ (ρ : Rho) (a n : Nat) : lastS ρ a (n + 1) = .val (.int (0 + n)) := by
  unfold lastS
  rw [if_neg (by omega)]
  congr 2
  omega
/-- for k in range(n): x = x * y -/
theorem mul_loop {i j a : Nat} {ρ : Rho} {x y : Int} (n : Nat) (hi : ρ[i]? = some (.val (.int x))) (hj : ρ[j]? = some (.val (.int y))) (ij : i ≠ j) (aj : a ≠ j) (ai : a ≠ i) (ha : a < ρ.length) (hx : x.natAbs < 2 ^ 200) (hy : y.natAbs < 2 ^ 60) (hn : n ≤ 10000) :
    forL (gN a) (bSeq (sSet i (e2 mulP (eVo i) (eVo j))) bNil) (rngL 0 n) ρ = .next ((ρ.set i (.val (.int (x * y ^ n)))).set a (lastS ρ a n)) := by
  have hil : i < ρ.length := (List.getElem?_eq_some_iff.mp hi).1
  obtain ⟨ρ', e1, rfl⟩ := forL_rng (tgt := gN a) (body := bSeq (sSet i (e2 mulP (eVo i) (eVo j))) bNil) (fun k ρ' => ρ' = (ρ.set i (.val (.int (x * y ^ k)))).set a (lastS ρ a k)) 0 n ρ (by
    unfold lastS
    rw [Int.pow_zero, Int.mul_one, set_self hi, if_pos rfl, List.getD_eq_getElem?_getD, List.getElem?_eq_getElem ha]
    exact (set_self (List.getElem?_eq_getElem ha)).symm) (fun k ρ' hk e => by
    subst e
    refine ⟨_, .inl ?_, rfl⟩
    have hm : mulP (.int (x * y ^ k)) (.int y) = .ok (.int (x * y ^ k * y)) := mulP_ii (okMul_of (mul_bound hx (pow_bound hy k)) hy (by omega) (by omega) (by omega))
    have g1 : (((ρ.set i (.val (.int (x * y ^ k)))).set a (lastS ρ a k)).set a (.val (.int (0 + k))))[i]? = some (.val (.int (x * y ^ k))) := by
      rw [List.getElem?_set_ne ai, List.getElem?_set_ne ai, List.getElem?_set_self hil]
    have g2 : (((ρ.set i (.val (.int (x * y ^ k)))).set a (lastS ρ a k)).set a (.val (.int (0 + k))))[j]? = some (.val (.int y)) := by
      rw [List.getElem?_set_ne aj, List.getElem?_set_ne aj, List.getElem?_set_ne ij, hj]
    simp only [turnL, gN_eq, bSeq_eq, sSet_eq, e2_eq, eVo_of g1, eVo_of g2, bind1, hm, st_ok, then_next, bNil_eq]
    rw [List.set_set, List.set_comm _ _ ai, List.set_set, Int.pow_succ, Int.mul_assoc, lastS_succ])
  exact e1
end PL
set_option Elab.async false
set_option linter.all false
set_option maxRecDepth 100000
set_option autoImplicit false
namespace PL
open PySem PySem.Spec L2
open PyProof.Rows hiding St
end PL
set_option Elab.async false
set_option linter.all false
set_option maxRecDepth 100000
set_option autoImplicit false
namespace PL
open PySem PySem.Spec L2
open PyProof.Rows hiding St
def asIs : List PV → Option (List Int)
  | [] => some []
  | .int b :: r => (asIs r).map (b :: ·)
  | _ => none
theorem asIs_map : ∀ {l : List PV} {bs : List Int}, asIs l = some bs → l = bs.map PV.int
  | [], _, h => by cases h; rfl
  | .int b :: r, bs, h => by
    unfold asIs at h
    obtain ⟨cs, h1, rfl⟩ := Option.map_eq_some_iff.mp h
    rw [asIs_map h1]; rfl
  | .non :: _, _, h | .bl _ :: _, _, h | .str _ :: _, _, h | .tup _ :: _, _, h | .lst _ :: _, _, h | .frz _ :: _, _, h | .dct :: _, _, h => by simp [asIs] at h
theorem asIs_of : ∀ bs : List Int, asIs (bs.map PV.int) = some bs
  | [] => rfl
  | b :: bs => by simp [asIs, asIs_of bs]
def leastI : List Int → Int
  | [] => 0
  | [n] => n
  | n :: m :: ns => min n (leastI (m :: ns))
theorem leastI_mem : ∀ {ns : List Int}, ns ≠ [] → leastI ns ∈ ns
  | [], h => absurd rfl h
  | [n], _ => List.mem_cons_self
  | n :: m :: ns, _ => by
    have ih := leastI_mem (ns := m :: ns) (fun z => nomatch z)
    show min n (leastI (m :: ns)) ∈ _
    rcases Int.le_total n (leastI (m :: ns)) with h | h
    · rw [Int.min_eq_left h]; exact List.mem_cons_self
    · rw [Int.min_eq_right h]; exact List.mem_cons_of_mem _ ih
theorem leastI_le : ∀ {ns : List Int}, ∀ y ∈ ns, leastI ns ≤ y
  | [], _, h => nomatch h
  | [n], y, h => by rw [List.mem_singleton.mp h]; exact Int.le_refl _
  | n :: m :: ns, y, h => by
    show min n (leastI (m :: ns)) ≤ y
    rcases List.mem_cons.mp h with rfl | h
    · exact Int.min_le_left ..
    · exact Int.le_trans (Int.min_le_right ..) (leastI_le y h)
theorem leastI_uniq {ns : List Int} {m : Int} (hm : m ∈ ns) (h : ∀ y ∈ ns, m ≤ y) : m = leastI ns :=
  Int.le_antisymm (h _ (leastI_mem fun z => by rw [z] at hm; cases hm)) (leastI_le m hm)
def minPL : List PV → R PV
  | [.lst l] => match asIs l with
    | some (n :: ns) => .ok (.int (leastI (n :: ns)))
    | _ => .stuck
  | _ => .stuck
theorem minPL_exc (ps : List PV) (c : Str) : minPL ps ≠ .exc c := by unfold minPL; split <;> (try split) <;> exact fun z => nomatch z
theorem minPL_ok {ns : List Int} (h : ns ≠ []) : minPL [.lst (ns.map PV.int)] = .ok (.int (leastI ns)) := by
  cases ns with
  | nil => exact absurd rfl h
  | cons n r => unfold minPL; dsimp only; rw [asIs_of]
theorem s_minL (K : PySem.W.Frag) : CallS K (rMin K) .t .s minPL := by
  intro H0 O0 σ ρ H H2 xs ps Q S s r G
  unfold minPL at G
  split at G
  · split at G
    · rename_i n ns hns
      obtain ⟨v, rfl, r1⟩ := pr1 r
      rw [asIs_map hns] at r1
      obtain ⟨a, vs, rfl, h1, r2⟩ := rt_lst r1
      rw [r2.ints] at h1
      exact ⟨a, n :: ns, rfl, .inl (.inl h1), by simp, fun m hm hl => by rw [leastI_uniq hm hl]; exact G _ _ (Same.refl _) (.int _)⟩
    · exact G.elim
  · exact G.elim
section
variable {X : Cx} {W : WX} {e : Expr} {pos p : Pos} {fA : Rho → R (List PV)}
theorem e_min1 (hc : X.calm = true) (mg : X.mg "min" = none) (hg : Gl X "min") (ha : AJ X W .t [e] fA) (he : starEach [e] X.env = (false, eval e X.env) :: starEach [] X.env := by rfl) : EJ X W .s (.Call (.Name "min" p) [e] [] pos) (eD minPL fA) := e_callB (cr_min hc) minPL_exc (s_minL _) hg mg (by decide +kernel) ha (he := he)
end
def sMut0 (i : Nat) (g : List PV → R (List PV)) : Rho → Out := fun ρ => match ρ[i]? with
  | some (.own ps) => (match g ps with
    | .ok qs => .next (ρ.set i (.own qs))
    | _ => .stuck)
  | _ => .stuck
def clearP : List PV → R (List PV) := fun _ => .ok []
def getN (ps : List PV) : PV → Option PV
  | .int k => if 0 ≤ k ∧ k < 1000000 then ps[k.toNat]? else none
  | _ => none
def augN (ps : List PV) : PV → PV → PV → R (List PV)
  | .int k, .int a, .int b => match ixN ps.length k with
    | some j => .ok (ps.set j (.int (a + b)))
    | none => .stuck
  | _, _, _ => .stuck
def sAugI (i : Nat) (fi f : Rho → R PV) : Rho → Out := fun ρ => match ρ[i]? with
  | some (.own ps) => sE fi (fun q ρ => match getN ps q with
    | some x => sE f (fun y ρ => match augN ps q x y with
      | .ok qs => .next (ρ.set i (.own qs))
      | _ => .stuck) ρ
    | none => .stuck) ρ
  | _ => .stuck
end PL
set_option Elab.async false
set_option linter.all false
set_option maxRecDepth 100000
set_option autoImplicit false
namespace PL
open PySem PySem.Spec L2
open PyProof.Rows hiding St
end PL
set_option Elab.async false
set_option linter.all false
set_option maxRecDepth 100000
set_option autoImplicit false
namespace PM
open PySem PySem.Spec L2 PL
open PyProof.Rows hiding St
noncomputable def D_is_whole : Rho → Out := (bSeq (sRet (eAn (e1 (isiP "int") (eVo 0)) (e1 notP (e1 (isiP "bool") (eVo 0))))) bNil)
noncomputable def F_is_whole : List PV → R PV := runF 1 D_is_whole
noncomputable def D_is_prime : Rho → Out := (bSeq (sIf (tOr' (tNt (tB1 (eD F_is_whole (aCons (eV 0) aNil)))) (tOr' (tB1 (e2 ltP (eVo 0) (eC (.int 2)))) (tB1 (e2 gtP (eVo 0) (eC (.int 97)))))) (bSeq (sRet (eC (.bl false))) bNil) bNil) (bSeq (sRet (eD allP (aCons (eLc [1] (iR rng2 (aCons (eC (.int 2)) (aCons (eVo 0) aNil))) (gN 1) cYes (e2 neP (e2 modP (eVo 0) (eVo 1)) (eC (.int 0)))) aNil))) bNil))
noncomputable def F_is_prime : List PV → R PV := runF 2 D_is_prime
noncomputable def D_power_of : Rho → Out := (bSeq (sSet 2 (eC (.int 1))) (bSeq (sFor (iR rng1 (aCons (eVo 1) aNil)) (gN 3) (bSeq (sAug 2 mulP (eVo 0)) bNil)) (bSeq (sRet (eV 2)) bNil)))
noncomputable def F_power_of : List PV → R PV := runF 4 D_power_of
noncomputable def D_exponent : Rho → Out := (bSeq (sSet 2 (eC (.int 0))) (bSeq (sTo (gT (gsCons (gN 3) (gsCons (gN 4) gsNil))) (eD divmodP (aCons (eVo 1) (aCons (eVo 0) aNil)))) (bSeq (sWh (tB1 (e2 eqP (eVo 4) (eC (.int 0)))) (bSeq (sAug 2 (intP (fun _ _ => true) fun a b => .int (a + b)) (eC (.int 1))) (bSeq (sTo (gT (gsCons (gN 3) (gsCons (gN 4) gsNil))) (eD divmodP (aCons (eVo 3) (aCons (eVo 0) aNil)))) bNil))) (bSeq (sRet (eV 2)) bNil))))
noncomputable def F_exponent : List PV → R PV := runF 5 D_exponent
noncomputable def D_are_figures : Rho → Out := (bSeq (sIf (tNt (tB1 (e1 (isiP2 "list" "tuple") (eVo 1)))) (bSeq (sRet (eC (.bl false))) bNil) bNil) (bSeq (sRet (eD allP (aCons (eLc [2] (iS (eV 1)) (gN 2) cYes (eAn (eD F_is_whole (aCons (eV 2) aNil)) (eChain leP ltP (eC (.int 0)) (eVo 2) (eVo 0)))) aNil))) bNil))
noncomputable def F_are_figures : List PV → R PV := runF 3 D_are_figures
noncomputable def D_left_number : Rho → Out := (bSeq (sIf (tNt (tB1 (eD F_is_prime (aCons (eV 0) aNil)))) (bSeq (sRaise "NoPrime") bNil) bNil) (bSeq (sIf (tNt (tB1 (eD F_is_whole (aCons (eV 1) aNil)))) (bSeq (sRaise "NoPlace") bNil) bNil) (bSeq (sIf (tNt (tB1 (eD F_are_figures (aCons (eV 0) (aCons (eV 2) aNil))))) (bSeq (sRaise "NoFigures") bNil) bNil) (bSeq (sSet 3 (eC (.int 0))) (bSeq (sWh (tAn (tB1 (e2 ltP (eVo 3) (eD lenP (aCons (eVo 2) aNil)))) (tB1 (e2 eqP (e2 ixP (eVo 2) (eVo 3)) (eC (.int 0))))) (bSeq (sAug 3 (intP (fun _ _ => true) fun a b => .int (a + b)) (eC (.int 1))) bNil)) (bSeq (sRet (eD tupP (aCons (eV 0) (aCons (e2 addP (eVo 1) (eVo 3)) (aCons (eD tupleP (aCons (eSl slP (eVo 2) (oSome (eV 3)) oNone) aNil)) aNil))))) bNil))))))
noncomputable def F_left_number : List PV → R PV := runF 4 D_left_number
noncomputable def D_end_of : Rho → Out := (bSeq (sRet (e2 addP (e2 ixP (eVo 0) (eC (.int 1))) (eD lenP (aCons (e2 ixP (eVo 0) (eC (.int 2))) aNil)))) bNil)
noncomputable def F_end_of : List PV → R PV := runF 1 D_end_of
noncomputable def D_known_of : Rho → Out := (bSeq (sRet (eD lenP (aCons (e2 ixP (eVo 0) (eC (.int 2))) aNil))) bNil)
noncomputable def F_known_of : List PV → R PV := runF 1 D_known_of
noncomputable def D_unit_of : Rho → Out := (bSeq (sSet 1 (eC (.int 0))) (bSeq (sFor (iRv (e2 ixP (eVo 0) (eC (.int 2)))) (gN 2) (bSeq (sSet 1 (e2 addP (e2 mulP (eVo 1) (e2 ixP (eVo 0) (eC (.int 0)))) (eVo 2))) bNil)) (bSeq (sRet (eV 1)) bNil)))
noncomputable def F_unit_of : List PV → R PV := runF 3 D_unit_of
noncomputable def D_of_whole : Rho → Out := (bSeq (sSetO 4 (eD lstP aNil)) (bSeq (sFor (iR rng1 (aCons (eVo 3) aNil)) (gN 5) (bSeq (sTo (gT (gsCons (gN 2) (gsCons (gN 6) gsNil))) (eD divmodP (aCons (eVo 2) (aCons (eVo 0) aNil)))) (bSeq (sMut 4 appP (eV 6)) bNil))) (sFrz 4 (bSeq (sRet (eD F_left_number (aCons (eV 0) (aCons (eV 1) (aCons (eV 4) aNil))))) bNil))))
noncomputable def F_of_whole : List PV → R PV := runF 7 D_of_whole
noncomputable def D_turned : Rho → Out := (bSeq (sSet 2 (eD tupP (aCons (eV 1) (aCons (eC (.int 0)) aNil)))) (bSeq (sSet 3 (eD tupP (aCons (e2 modP (eVo 0) (eVo 1)) (aCons (eC (.int 1)) aNil)))) (bSeq (sWh (tB1 (e2 gtP (e2 ixP (eVo 3) (eC (.int 0))) (eC (.int 0)))) (bSeq (sSet 4 (e2 fdivP (e2 ixP (eVo 2) (eC (.int 0))) (e2 ixP (eVo 3) (eC (.int 0))))) (bSeq (sPar 2 3 (aCons (eV 3) (aCons (eD tupP (aCons (e2 subP (e2 ixP (eVo 2) (eC (.int 0))) (e2 mulP (eVo 4) (e2 ixP (eVo 3) (eC (.int 0))))) (aCons (e2 subP (e2 ixP (eVo 2) (eC (.int 1))) (e2 mulP (eVo 4) (e2 ixP (eVo 3) (eC (.int 1))))) aNil))) aNil))) bNil))) (bSeq (sRet (e2 modP (e2 ixP (eVo 2) (eC (.int 1))) (eVo 1))) bNil))))
noncomputable def F_turned : List PV → R PV := runF 5 D_turned
noncomputable def D_is_near_one : Rho → Out := (bSeq (sTo (gT (gsCons (gN 1) (gsCons (gN 2) (gsCons (gN 3) gsNil)))) (eV 0)) (bSeq (sIf (tOr' (tB1 (e2 neP (eVo 2) (eC (.int 0)))) (tOr' (tB1 (e2 eqP (eVo 3) (eD tupP aNil))) (tB1 (e2 neP (e2 ixP (eVo 3) (eC (.int 0))) (eC (.int 1)))))) (bSeq (sRet (eC (.bl false))) bNil) bNil) (bSeq (sRet (eOr (e2 neP (eVo 1) (eC (.int 2))) (eAn (e2 gtP (eD lenP (aCons (eVo 3) aNil)) (eC (.int 1))) (e2 eqP (e2 ixP (eVo 3) (eC (.int 1))) (eC (.int 0)))))) bNil)))
noncomputable def F_is_near_one : List PV → R PV := runF 4 D_is_near_one
noncomputable def D_log_of : Rho → Out := (bSeq (sIf (tNt (tB1 (eD F_is_near_one (aCons (eV 0) aNil)))) (bSeq (sRaise "NotNear") bNil) bNil) (bSeq (sSet 1 (e2 ixP (eVo 0) (eC (.int 0)))) (bSeq (sSet 2 (eD F_known_of (aCons (eV 0) aNil))) (bSeq (sSet 3 (eD F_power_of (aCons (eV 1) (aCons (eV 2) aNil)))) (bSeq (sSet 4 (e2 subP (eD F_unit_of (aCons (eV 0) aNil)) (eC (.int 1)))) (bSeq (sSet 5 (e2 mulP (eVo 3) (eD F_power_of (aCons (eV 1) (aCons (eC (.int 12)) aNil))))) (bSeq (sSet 6 (eC (.int 1))) (bSeq (sSet 7 (eC (.int 0))) (bSeq (sFor (iR rng2 (aCons (eC (.int 1)) (aCons (e2 addP (e2 addP (eVo 2) (eC (.int 12))) (eC (.int 1))) aNil))) (gN 8) (bSeq (sSet 6 (e2 modP (e2 mulP (eVo 6) (eVo 4)) (eVo 5))) (bSeq (sSet 9 (eD F_power_of (aCons (eV 1) (aCons (eD F_exponent (aCons (eV 1) (aCons (eV 8) aNil))) aNil)))) (bSeq (sSet 10 (e2 mulP (e2 fdivP (eVo 6) (eVo 9)) (eD F_turned (aCons (e2 fdivP (eVo 8) (eVo 9)) (aCons (eV 3) aNil))))) (bSeq (sIf (tB1 (e2 eqP (e2 modP (eVo 8) (eC (.int 2))) (eC (.int 1)))) (bSeq (sAug 7 (intP (fun _ _ => true) fun a b => .int (a + b)) (eVo 10)) bNil) (bSeq (sAug 7 subP (eVo 10)) bNil)) bNil))))) (bSeq (sRet (eD F_of_whole (aCons (eV 1) (aCons (eC (.int 0)) (aCons (e2 modP (eVo 7) (eVo 3)) (aCons (eV 2) aNil)))))) bNil))))))))))
noncomputable def F_log_of : List PV → R PV := runF 11 D_log_of
noncomputable def D_exp_of : Rho → Out := (bSeq (sTo (gT (gsCons (gN 1) (gsCons (gN 2) (gsCons (gN 3) gsNil)))) (eV 0)) (bSeq (sIf (tOr' (tB1 (e2 ltP (eVo 2) (eC (.int 1)))) (tAn (tB1 (e2 eqP (eVo 1) (eC (.int 2)))) (tB1 (e2 ltP (eVo 2) (eC (.int 2)))))) (bSeq (sRaise "NotNear") bNil) bNil) (bSeq (sSet 4 (eD F_end_of (aCons (eV 0) aNil))) (bSeq (sSet 5 (eD F_power_of (aCons (eV 1) (aCons (eV 4) aNil)))) (bSeq (sSet 6 (eD F_unit_of (aCons (eV 0) aNil))) (bSeq (sSet 7 (eC (.int 1))) (bSeq (sSet 8 (eC (.int 1))) (bSeq (sSet 9 (eC (.int 0))) (bSeq (sFor (iR rng2 (aCons (eC (.int 1)) (aCons (e2 addP (e2 mulP (eC (.int 2)) (eVo 4)) (eC (.int 2))) aNil))) (gN 10) (bSeq (sSet 11 (eD F_exponent (aCons (eV 1) (aCons (eV 10) aNil)))) (bSeq (sSet 8 (e2 modP (e2 mulP (e2 mulP (eVo 8) (eVo 6)) (eD F_turned (aCons (e2 fdivP (eVo 10) (eD F_power_of (aCons (eV 1) (aCons (eV 11) aNil)))) (aCons (eV 5) aNil)))) (eVo 5))) (bSeq (sAug 9 (intP (fun _ _ => true) fun a b => .int (a + b)) (e2 subP (eVo 2) (eVo 11))) (bSeq (sIf (tB1 (e2 ltP (eVo 9) (eVo 4))) (bSeq (sAug 7 (intP (fun _ _ => true) fun a b => .int (a + b)) (e2 mulP (eVo 8) (eD F_power_of (aCons (eV 1) (aCons (eV 9) aNil))))) bNil) bNil) bNil))))) (bSeq (sRet (eD F_of_whole (aCons (eV 1) (aCons (eC (.int 0)) (aCons (e2 modP (eVo 7) (eVo 5)) (aCons (eV 4) aNil)))))) bNil))))))))))
noncomputable def F_exp_of : List PV → R PV := runF 12 D_exp_of
end PM
set_option Elab.async false
set_option linter.all false
set_option maxRecDepth 100000
set_option autoImplicit false
namespace PM
open PySem PySem.Spec L2 PL
open PyProof.Rows hiding St
theorem f_is_whole (p : PV) : F_is_whole [p] = .ok (.bl (isW p)) := by
  show (D_is_whole [.val p]).res = _
  simp [D_is_whole, whole_eq]
def primesL : List Int := [2, 3, 5, 7, 11, 13, 17, 19, 23, 29, 31, 37, 41, 43, 47, 53, 59, 61, 67, 71, 73, 79, 83, 89, 97]
def isP (p : PV) : Bool := match p with
  | .int n => decide (n ∈ primesL)
  | _ => false
def primesN : List Nat := [2, 3, 5, 7, 11, 13, 17, 19, 23, 29, 31, 37, 41, 43, 47, 53, 59, 61, 67, 71, 73, 79, 83, 89, 97]
theorem primes_tab : ((List.range 98).all fun k => (!decide (2 ≤ k)) || (((List.range (k - 2)).all fun i => !(k % (2 + i) == 0)) == primesN.contains k)) = true := by decide +kernel
theorem primes_by (k : Nat) (hk : k < 98) (h2 : 2 ≤ k) : ((List.range (k - 2)).map fun (i : Nat) => (!(((k : Int) % ((2 : Int) + (i : Int))) == 0))).all id = decide ((k : Int) ∈ primesL) := by
  have h := List.all_eq_true.mp primes_tab k (List.mem_range.mpr hk)
  rw [decide_eq_true h2, Bool.not_true, Bool.false_or, beq_iff_eq] at h
  have e1 : (fun (i : Nat) => (!(((k : Int) % ((2 : Int) + (i : Int))) == 0))) = fun i => !(k % (2 + i) == 0) := by
    funext i
    rw [show ((2 : Int) + (i : Int)) = ((2 + i : Nat) : Int) by omega, ← Int.natCast_emod]
    congr 1
    rw [Bool.eq_iff_iff, beq_iff_eq, beq_iff_eq]
    omega
  rw [e1, List.all_map]
  show ((List.range (k - 2)).all fun i => !(k % (2 + i) == 0)) = _
  rw [h, List.contains_eq_mem]
  have e2 : primesL = primesN.map fun (n : Nat) => (n : Int) := rfl
  rw [Bool.eq_iff_iff, decide_eq_true_eq, decide_eq_true_eq, e2, List.mem_map]
  constructor
  · exact fun z => ⟨k, z, rfl⟩
  · rintro ⟨n, z, e⟩
    rw [show k = n by omega]; exact z
theorem primesL_le : ∀ n ∈ primesL, 2 ≤ n ∧ n ≤ 97 := by decide
def neM (k : Int) : PV → PV
  | .int i => .bl (!((k % i) == 0))
  | _ => .non
theorem prime_hr (k : Nat) (hk : k < 98) (h2 : 2 ≤ k) : iR rng2 (aCons (eC (.int 2)) (aCons (eVo 0) aNil)) [.val (.int (k : Int)), .un] = .ok (rngL 2 (k - 2)) := by
  simp only [iR_eq, aCons_eq, eC_eq, bind1, eVo0, aNil_eq]
  rw [rng2_sm (by omega) (by omega) (by omega) (by omega)]
  rw [show ((k : Int) - 2).toNat = k - 2 by omega]
theorem prime_hm (k : Nat) : lcGo (gN 1) cYes (e2 neP (e2 modP (eVo 0) (eVo 1)) (eC (.int 0))) [.val (.int (k : Int)), .un] (rngL 2 (k - 2)) = .ok ((rngL 2 (k - 2)).map (neM k)) :=
  lcGo_map _ _ fun q hq => by
    unfold rngL at hq
    obtain ⟨i, hi, rfl⟩ := List.mem_map.mp hq
    refine ⟨_, rfl, ?_⟩
    simp only [e2_eq, eVo0, bind1, List.set_cons_succ, List.set_cons_zero, eVos, eC_eq]
    rw [modP_pos (by omega)]
    simp [neM]
theorem prime_map (k : Nat) : (rngL 2 (k - 2)).map (neM k) = (((List.range (k - 2)).map fun (i : Nat) => (!(((k : Int) % ((2 : Int) + (i : Int))) == 0)))).map PV.bl := by
  unfold rngL
  rw [List.map_map, List.map_map]
  rfl
theorem allP_bl (bs : List Bool) : allP [.lst (bs.map PV.bl)] = .ok (.bl (bs.all id)) := by
  unfold allP
  dsimp only
  rw [asBs_of]
def primeBs (k : Nat) : List Bool := (List.range (k - 2)).map fun (i : Nat) => (!(((k : Int) % ((2 : Int) + (i : Int))) == 0))
theorem prime_he (k : Nat) (hk : k < 98) (h2 : 2 ≤ k) : eLc [1] (iR rng2 (aCons (eC (.int 2)) (aCons (eVo 0) aNil))) (gN 1) cYes (e2 neP (e2 modP (eVo 0) (eVo 1)) (eC (.int 0))) [.val (.int (k : Int)), .un] = .ok (.lst ((primeBs k).map PV.bl)) := by
  rw [eLc_ok (vs := [1]) (test := cYes) (ρ := [.val (.int (k : Int)), .un]) rfl (prime_hr k hk h2) (by rw [rngL_len]; omega) (prime_hm k), prime_map]
  rfl
theorem f_is_prime (p : PV) : F_is_prime [p] = .ok (.bl (isP p)) := by
  show (D_is_prime [.val p, .un]).res = _
  by_cases hw : isW p = true
  · cases p with
    | int n =>
      by_cases h2 : n < 2
      · have : ¬ n ∈ primesL := fun h => by have := primesL_le n h; omega
        simp [D_is_prime, f_is_whole, isW, h2, isP, this]
      · by_cases h97 : 97 < n
        · have : ¬ n ∈ primesL := fun h => by have := primesL_le n h; omega
          simp [D_is_prime, f_is_whole, isW, h2, h97, isP, this]
        · obtain ⟨k, rfl⟩ : ∃ k : Nat, n = (k : Int) := ⟨n.toNat, by omega⟩
          unfold D_is_prime
          have hb : (primeBs k).all id = decide ((k : Int) ∈ primesL) := primes_by k (by omega) (by omega)
          simp [D_is_prime, f_is_whole, isW, h2, h97, isP, prime_he k (by omega) (by omega), allP_bl, hb]
    | _ => simp [isW] at hw
  · have hw' : isW p = false := by cases h : isW p <;> simp_all
    have hp : isP p = false := by cases p <;> simp_all [isP, isW]
    simp [D_is_prime, f_is_whole, hw', hp]
theorem f_power_of (p k : Int) (hp : p.natAbs < 2 ^ 60) (h0 : 0 ≤ k) (h1 : k ≤ 10000) : F_power_of [.int p, .int k] = .ok (.int (p ^ k.toNat)) := by
  show (D_power_of [.val (.int p), .val (.int k), .un, .un]).res = _
  simp only [D_power_of, bSeq_eq, sSet_eq, eC_eq, st_ok, then_next, List.set_cons_succ, List.set_cons_zero, sFor_eq, iR_eq, aCons_eq, aNil_eq, eVo0, eVos, bind1]
  rw [rng1_sm (by omega) (by omega)]
  obtain ⟨ρ', e1, s, rfl⟩ := forL_rng (tgt := gN 3) (body := bSeq (sAug 2 mulP (eVo 0)) bNil) (fun j ρ => ∃ s, ρ = [.val (.int p), .val (.int k), .val (.int (p ^ j)), s]) 0 k.toNat [.val (.int p), .val (.int k), .val (.int 1), .un] ⟨.un, by simp⟩ (fun j ρ hj ⟨s, e⟩ => by
    subst e
    have hm : mulP (.int (p ^ j)) (.int p) = .ok (.int (p ^ j * p)) := mulP_ii (okMul_of (pow_bound hp j) hp (by omega) (by omega) (by omega))
    refine ⟨_, .inl ?_, .val (.int (0 + j)), rfl⟩
    rw [Int.pow_succ]
    simp [turnL, hm])
  rw [stL_ok, e1]
  simp
theorem f_exponent (p m : Int) (hp : 2 ≤ p) (hp2 : p < 2 ^ 8000) (hm : m % p ≠ 0) (k : Nat) : F_exponent [.int p, .int (m * p ^ k)] = .ok (.int k) := by
  have turn : ∀ k : Nat, divmodP [.int (m * p ^ k), .int p] = .ok (.tup [.int (m * p ^ k / p), .int (m * p ^ k % p)]) := fun k => divmodP_pos (by omega) (by omega)
  have up : ∀ k : Nat, m * p ^ (k + 1) / p = m * p ^ k ∧ m * p ^ (k + 1) % p = 0 := fun k => by
    rw [Int.pow_succ, ← Int.mul_assoc]
    exact ⟨Int.mul_ediv_cancel _ (by omega), Int.mul_emod_left _ _⟩
  have run : ∀ (j : Nat) (c : Int) (a : PV), sWh (tB1 (e2 eqP (eVo 4) (eC (.int 0)))) (bSeq (sAug 2 (intP (fun _ _ => true) fun a b => .int (a + b)) (eC (.int 1))) (bSeq (sTo (gT (gsCons (gN 3) (gsCons (gN 4) gsNil))) (eD divmodP (aCons (eVo 3) (aCons (eVo 0) aNil)))) bNil))
      [.val (.int p), .val a, .val (.int c), .val (.int (m * p ^ j / p)), .val (.int (m * p ^ j % p))] = .next [.val (.int p), .val a, .val (.int (c + j)), .val (.int (m / p)), .val (.int (m % p))] := by
    intro j
    induction j with
    | zero =>
      intro c a
      have hm' : (m % p == 0) = false := by simpa using hm
      rw [sWh_eq]
      simp [hm']
    | succ j ih =>
      intro c a
      rw [sWh_eq, (up j).1, (up j).2]
      simp [turn, ih]
      omega
  show (D_exponent [.val (.int p), .val (.int (m * p ^ k)), .un, .un, .un]).res = _
  simp [D_exponent, turn, run]
end PM
set_option Elab.async false
set_option linter.all false
set_option maxRecDepth 100000
set_option autoImplicit false
namespace PM
open PySem PySem.Spec L2 PL
open PyProof.Rows hiding St
theorem isi_lt (p : PV) : isiP2 "list" "tuple" p = .ok (.bl (isL p || isT p)) := by
  have e1 : kitB "NoneType" "list" = some false := by decide +kernel
  have e2 : kitB "bool" "list" = some false := by decide +kernel
  have e3 : kitB "int" "list" = some false := by decide +kernel
  have e4 : kitB "str" "list" = some false := by decide +kernel
  have e5 : kitB "tuple" "list" = some false := by decide +kernel
  have e6 : kitB "list" "list" = some true := by decide +kernel
  have e7 : kitB "dict" "list" = some false := by decide +kernel
  have d1 : kitB "NoneType" "tuple" = some false := by decide +kernel
  have d2 : kitB "bool" "tuple" = some false := by decide +kernel
  have d3 : kitB "int" "tuple" = some false := by decide +kernel
  have d4 : kitB "str" "tuple" = some false := by decide +kernel
  have d5 : kitB "tuple" "tuple" = some true := by decide +kernel
  have d6 : kitB "list" "tuple" = some false := by decide +kernel
  have d7 : kitB "dict" "tuple" = some false := by decide +kernel
  cases p <;> simp [isiP2, tyN, e1, e2, e3, e4, e5, e6, e7, d1, d2, d3, d4, d5, d6, d7, isL, isT]
def R.own (r : R (List PV)) (ρ : Rho) (i : Nat) : Out := match r with
  | .ok qs => .next (ρ.set i (.own qs))
  | _ => .stuck
@[simp] theorem own_ok {qs : List PV} {ρ : Rho} {i : Nat} : R.own (.ok qs) ρ i = .next (ρ.set i (.own qs)) := nr rfl
def getOwn (ρ : Rho) (i : Nat) : Option (List PV) := match ρ[i]? with
  | some (.own ps) => some ps
  | _ => none
@[simp] theorem getOwn0 {ps : List PV} {ρ : Rho} : getOwn (.own ps :: ρ) 0 = some ps := nr rfl
@[simp] theorem getOwnS {s : Slot} {ρ : Rho} {i : Nat} : getOwn (s :: ρ) (i + 1) = getOwn ρ i := by simp [getOwn]
def onOwn (o : Option (List PV)) (k : List PV → Out) : Out := match o with
  | some ps => k ps
  | none => .stuck
@[simp] theorem onOwn_some {ps : List PV} {k : List PV → Out} : onOwn (some ps) k = k ps := nr rfl
@[simp] theorem sMut_eq {i : Nat} {g : List PV → PV → R (List PV)} {f : Rho → R PV} {ρ : Rho} : sMut i g f ρ = onOwn (getOwn ρ i) fun ps => (f ρ).st ρ fun p => R.own (g ps p) ρ i := by
  unfold sMut getOwn
  cases ρ[i]? with
  | none => rfl
  | some t => cases t <;> rfl
def asL : PV → R (List PV)
  | .lst l => .ok l
  | _ => .stuck
@[simp] theorem asL_l {l : List PV} : asL (.lst l) = .ok l := nr rfl
@[simp] theorem sSetO_eq {i : Nat} {f : Rho → R PV} {ρ : Rho} : sSetO i f ρ = (f ρ).st ρ fun p => R.own (asL p) ρ i := by
  unfold sSetO sE R.st R.own asL
  cases f ρ with
  | ok p => cases p <;> rfl
  | exc c => rfl
  | stuck => rfl
@[simp] theorem sRetO_eq {i : Nat} {ρ : Rho} : sRetO i ρ = onOwn (getOwn ρ i) fun ps => .ret (.lst ps) := by
  unfold sRetO getOwn
  cases ρ[i]? with
  | none => rfl
  | some t => cases t <;> rfl
def frzR (ρ : Rho) (i : Nat) : Rho := match ρ[i]? with
  | some (.own ps) => ρ.set i (.val (.lst ps))
  | _ => ρ
@[simp] theorem frzR0 {ps : List PV} {ρ : Rho} : frzR (.own ps :: ρ) 0 = .val (.lst ps) :: ρ := nr rfl
@[simp] theorem frzR0v {p : PV} {ρ : Rho} : frzR (.val p :: ρ) 0 = .val p :: ρ := nr rfl
@[simp] theorem frzR0u {ρ : Rho} : frzR (.un :: ρ) 0 = .un :: ρ := nr rfl
@[simp] theorem frzRS {s : Slot} {ρ : Rho} {i : Nat} : frzR (s :: ρ) (i + 1) = s :: frzR ρ i := by
  unfold frzR
  rw [List.getElem?_cons_succ]
  cases ρ[i]? with
  | none => rfl
  | some t => cases t <;> rfl
@[simp] theorem sFrz_eq {i : Nat} {g : Rho → Out} {ρ : Rho} : sFrz i g ρ = g (frzR ρ i) := by
  unfold sFrz frzR
  cases ρ[i]? with
  | none => rfl
  | some t => cases t <;> rfl
theorem appP_ok {l : List PV} {p : PV} (h : l.length < 1000000) : appP l p = .ok (l ++ [p]) := by
  unfold appP
  rw [if_pos (Nat.lt_of_lt_of_le h (size_ok (Nat.le_refl _)))]
@[simp] theorem sSetI_eq {i : Nat} {f fi : Rho → R PV} {ρ : Rho} : sSetI i f fi ρ = onOwn (getOwn ρ i) fun ps => (f ρ).st ρ fun p => (fi ρ).st ρ fun q => R.own (setP ps p q) ρ i := by
  unfold sSetI getOwn
  cases ρ[i]? with
  | none => rfl
  | some t => cases t <;> rfl
def Out.fo (o : Out) (k : Rho → Out) : Out := match o with
  | .next ρ => k ρ
  | .cont ρ => k ρ
  | .brk ρ => .next ρ
  | o => o
@[simp] theorem fo_next {ρ : Rho} {k : Rho → Out} : Out.fo (.next ρ) k = k ρ := nr rfl
@[simp] theorem fo_cont {ρ : Rho} {k : Rho → Out} : Out.fo (.cont ρ) k = k ρ := nr rfl
@[simp] theorem fo_brk {ρ : Rho} {k : Rho → Out} : Out.fo (.brk ρ) k = .next ρ := nr rfl
@[simp] theorem fo_ret {p : PV} {k : Rho → Out} : Out.fo (.ret p) k = .ret p := nr rfl
@[simp] theorem fo_exc {c : Str} {ρ : Rho} {k : Rho → Out} : Out.fo (.exc c ρ) k = .exc c ρ := nr rfl
@[simp] theorem forL_nil {tgt : PV → Rho → Option Rho} {body : Rho → Out} {ρ : Rho} : forL tgt body [] ρ = .next ρ := nr rfl
def onR (o : Option Rho) (k : Rho → Out) : Out := match o with
  | some ρ => k ρ
  | none => .stuck
@[simp] theorem onR_some {ρ : Rho} {k : Rho → Out} : onR (some ρ) k = k ρ := nr rfl
theorem forL_cons {tgt : PV → Rho → Option Rho} {body : Rho → Out} {p : PV} {ps : List PV} {ρ : Rho} : forL tgt body (p :: ps) ρ = onR (tgt p ρ) fun ρ1 => Out.fo (body ρ1) (forL tgt body ps) := by
  show (match tgt p ρ with | none => Out.stuck | some ρ1 => match body ρ1 with | .next ρ' => forL tgt body ps ρ' | .cont ρ' => forL tgt body ps ρ' | .brk ρ' => .next ρ' | o => o) = _
  unfold onR Out.fo
  cases tgt p ρ with
  | none => rfl
  | some ρ1 => cases body ρ1 <;> rfl
theorem sIx_none (n k : Nat) : HT.sIx n k none = k := rfl
theorem cut_drop {α : Type} (l : List α) (k : Int) (h : 0 ≤ k) : cutG l (some k) none = l.drop k.toNat := by
  unfold cutG
  have e : HT.sIx l.length 0 (some k) = min k.toNat l.length := by
    unfold HT.sIx; dsimp only; rw [if_neg (by omega)]
  rw [e, sIx_none]
  rw [List.take_of_length_le (by rw [List.length_drop]; omega)]
  by_cases h2 : k.toNat ≤ l.length
  · rw [Nat.min_eq_left h2]
  · rw [Nat.min_eq_right (by omega), List.drop_eq_nil_of_le (Nat.le_refl _), List.drop_eq_nil_of_le (by omega)]
@[simp] theorem eSl_eq {g : PV → Option Int → Option Int → R PV} {f : Rho → R PV} {lo hi : Rho → R (Option Int)} {ρ : Rho} : eSl g f lo hi ρ = (f ρ).bind fun p => (lo ρ).bind fun l => (hi ρ).bind fun h => g p l h := nr rfl
@[simp] theorem oNone_eq {ρ : Rho} : oNone ρ = .ok none := nr rfl
@[simp] theorem oSome_eq {f : Rho → R PV} {ρ : Rho} : oSome f ρ = (f ρ).bind fun p => (asI p).bind fun i => .ok (some i) := nr rfl
@[simp] theorem slP_l {l : List PV} {lo hi : Option Int} : slP (.lst l) lo hi = .ok (.lst (cutG l lo hi)) := nr rfl
@[simp] theorem slP_f {l : List PV} {lo hi : Option Int} : slP (.frz l) lo hi = .ok (.lst (cutG l lo hi)) := nr rfl
@[simp] theorem slP_t {l : List PV} {lo hi : Option Int} : slP (.tup l) lo hi = .ok (.tup (cutG l lo hi)) := nr rfl
@[simp] theorem slL_l {l : List PV} {lo hi : Option Int} : slL (.lst l) lo hi = .ok (.lst (cutG l lo hi)) := nr rfl
@[simp] theorem tupleP_l {l : List PV} : tupleP [.lst l] = .ok (.tup l) := nr rfl
@[simp] theorem tupleP_t {l : List PV} : tupleP [.tup l] = .ok (.tup l) := nr rfl
@[simp] theorem tupleP_f {l : List PV} : tupleP [.frz l] = .ok (.tup l) := nr rfl
@[simp] theorem listP_l {l : List PV} : listP [.lst l] = .ok (.lst l) := nr rfl
@[simp] theorem listP_t {l : List PV} : listP [.tup l] = .ok (.lst l) := nr rfl
theorem addP_ok {a b : List PV} (h : a.length + b.length ≤ 1000000) : addP (.lst a) (.lst b) = .ok (.lst (a ++ b)) := by
  unfold addP; dsimp only; rw [if_pos (size_ok h)]
def figOk (p : Int) : PV → Bool
  | .int n => decide (0 ≤ n) && decide (n < p)
  | _ => false
theorem figs_map (p : Int) (l : List PV) (x s : PV) : lcGo (gN 2) cYes (eAn (eD F_is_whole (aCons (eV 2) aNil)) (eChain leP ltP (eC (.int 0)) (eVo 2) (eVo 0))) [.val (.int p), .val x, .un] l = .ok ((l.map (figOk p)).map PV.bl) := by
  rw [List.map_map]
  refine lcGo_map (fun q => PV.bl (figOk p q)) l fun q hq => ⟨_, rfl, ?_⟩
  cases q with
  | int n =>
    by_cases h : 0 ≤ n <;> simp [f_is_whole, figOk, h]
  | _ => simp [f_is_whole, figOk, isW]
theorem all_map (p : Int) (l : List PV) : (l.map (figOk p)).all id = l.all (figOk p) := by rw [List.all_map]; rfl
theorem f_are_l (p : Int) (l : List PV) (h : l.length ≤ 1000000) : F_are_figures [.int p, .lst l] = .ok (.bl (l.all (figOk p))) := by
  show (D_are_figures [.val (.int p), .val (.lst l), .un]).res = _
  have e := eLc_ok (vs := [2]) (it := iS (eV 1)) (ρ := [.val (.int p), .val (.lst l), .un]) rfl (by simp) h (figs_map p l (.lst l) .non)
  simp only [D_are_figures, bSeq_eq, sIf_eq, tNt_eq, tB1_eq, e1_eq, eVos, eVo0, bind1, isi_lt, isL, Bool.true_or, asB_eq, Bool.not_true, stB_ok, bNil_eq, if_neg Bool.false_ne_true, then_next, sRet_eq, eD_eq, aCons_eq, aNil_eq, e, allP_bl, all_map, st_ok, then_ret, res_ret]
theorem f_are_t (p : Int) (l : List PV) (h : l.length ≤ 1000000) : F_are_figures [.int p, .tup l] = .ok (.bl (l.all (figOk p))) := by
  show (D_are_figures [.val (.int p), .val (.tup l), .un]).res = _
  have e := eLc_ok (vs := [2]) (it := iS (eV 1)) (ρ := [.val (.int p), .val (.tup l), .un]) rfl (by simp) h (figs_map p l (.tup l) .non)
  simp only [D_are_figures, bSeq_eq, sIf_eq, tNt_eq, tB1_eq, e1_eq, eVos, eVo0, bind1, isi_lt, isL, isT, Bool.or_true, asB_eq, Bool.not_true, stB_ok, bNil_eq, if_neg Bool.false_ne_true, then_next, sRet_eq, eD_eq, aCons_eq, aNil_eq, e, allP_bl, all_map, st_ok, then_ret, res_ret]
theorem figs_all (p : Int) (ds : List Int) (h : ∀ d ∈ ds, 0 ≤ d ∧ d < p) : (ds.map PV.int).all (figOk p) = true := by
  rw [List.all_map, List.all_eq_true]
  intro d hd
  simp [figOk, h d hd]
def leftV (p e : Int) (ds : List Int) : PV := .tup [.int p, .int e, .tup (ds.map PV.int)]
def lead (ds : List Int) : Nat := (ds.takeWhile (· == 0)).length
def strip (ds : List Int) : List Int := ds.dropWhile (· == 0)
theorem strip_drop (ds : List Int) : ds.drop (lead ds) = strip ds := by
  unfold lead strip
  induction ds with
  | nil => rfl
  | cons d ds ih =>
    by_cases h : d = 0
    · subst h; simp [ih]
    · have : (d == 0) = false := by simpa using h
      simp [this]
theorem lead_le (ds : List Int) : lead ds ≤ ds.length := by
  unfold lead
  induction ds with
  | nil => simp
  | cons d ds ih => by_cases h : d = 0 <;> simp_all
theorem lead_zero (ds : List Int) : ∀ k, k < lead ds → ds.getD k 0 = 0 := by
  unfold lead
  induction ds with
  | nil => intro k h; simp at h
  | cons d ds ih =>
    intro k h
    by_cases hd : d = 0
    · subst hd
      cases k with
      | zero => rfl
      | succ k =>
        have := ih k (by simpa using h)
        simpa using this
    · have : (d == 0) = false := by simpa using hd
      simp [this] at h
theorem lead_ne (ds : List Int) (h : lead ds < ds.length) : ds.getD (lead ds) 0 ≠ 0 := by
  unfold lead at *
  induction ds with
  | nil => simp at h
  | cons d ds ih =>
    by_cases hd : d = 0
    · subst hd
      have := ih (by simpa using h)
      simpa using this
    · have h2 : (d == 0) = false := by simpa using hd
      simpa [h2] using hd
theorem strip_head (ds : List Int) : ∀ d r, strip ds = d :: r → d ≠ 0 := by
  unfold strip
  induction ds with
  | nil => intro d r h; simp at h
  | cons x xs ih =>
    intro d r h
    by_cases hx : x = 0
    · subst hx; exact ih d r (by simpa using h)
    · have h2 : (x == 0) = false := by simpa using hx
      simp [h2] at h
      rw [← h.1]; exact hx
theorem strip_mem (ds : List Int) : ∀ d ∈ strip ds, d ∈ ds := fun d h => (List.dropWhile_sublist _).subset h
theorem strip_len (ds : List Int) : (strip ds).length = ds.length - lead ds := by rw [← strip_drop, List.length_drop]
/-- the items of a written list or tuple of numbers -/
def SeqI (x : PV) (ds : List Int) : Prop := x = .lst (ds.map PV.int) ∨ x = .tup (ds.map PV.int)
theorem SeqI.ix {x : PV} {ds : List Int} (h : SeqI x ds) (k : Nat) (hk : k < ds.length) : ixP x (.int k) = .ok (.int (ds.getD k 0)) := by
  rcases h with rfl | rfl
  · exact ixP_lst (by omega) (getD_map ds _ (by omega))
  · exact ixP_tup (by omega) (getD_map ds _ (by omega))
theorem SeqI.len {x : PV} {ds : List Int} (h : SeqI x ds) : lenP [x] = .ok (.int ds.length) := by
  rcases h with rfl | rfl <;> simp
theorem SeqI.are {x : PV} {ds : List Int} (h : SeqI x ds) (p : Int) (hz : ds.length ≤ 1000000) (hd : ∀ d ∈ ds, 0 ≤ d ∧ d < p) : F_are_figures [.int p, x] = .ok (.bl true) := by
  rcases h with rfl | rfl
  · rw [f_are_l p _ (by simpa using hz), figs_all p ds hd]
  · rw [f_are_t p _ (by simpa using hz), figs_all p ds hd]
theorem SeqI.tail {x : PV} {ds : List Int} (h : SeqI x ds) (k : Nat) : ((slP x (some k) none).bind fun y => tupleP [y]) = .ok (.tup ((ds.drop k).map PV.int)) := by
  rcases h with rfl | rfl <;> simp [cut_drop]
theorem lead_run (p e : Int) (x : PV) (ds : List Int) (h : SeqI x ds) : ∀ (j k : Nat), k + j = lead ds →
    sWh (tAn (tB1 (e2 ltP (eVo 3) (eD lenP (aCons (eVo 2) aNil)))) (tB1 (e2 eqP (e2 ixP (eVo 2) (eVo 3)) (eC (.int 0))))) (bSeq (sAug 3 (intP (fun _ _ => true) fun a b => .int (a + b)) (eC (.int 1))) bNil) [.val (.int p), .val (.int e), .val x, .val (.int k)] = .next [.val (.int p), .val (.int e), .val x, .val (.int (lead ds))] := by
  intro j
  have hl := lead_le ds
  induction j with
  | zero =>
    intro k hk
    have hk' : k = lead ds := by omega
    subst hk'
    rw [sWh_eq]
    by_cases h2 : lead ds < ds.length
    · have e1 := h.ix _ h2
      have e2 : (ds.getD (lead ds) 0 == 0) = false := by simpa using lead_ne ds h2
      simp [h.len, h2, e1, -List.getD_eq_getElem?_getD, e2]
    · simp [h.len, h2]
  | succ j ih =>
    intro k hk
    rw [sWh_eq]
    have h2 : k < ds.length := by omega
    have e1 := h.ix _ h2
    rw [lead_zero ds k (by omega)] at e1
    have ih' := ih (k + 1) (by omega)
    simp [h.len, h2, e1]
    exact ih'
theorem f_left (p e : Int) (x : PV) (ds : List Int) (hp : p ∈ primesL) (h : SeqI x ds) (hz : ds.length ≤ 1000000) (hd : ∀ d ∈ ds, 0 ≤ d ∧ d < p) : F_left_number [.int p, .int e, x] = .ok (leftV p (e + lead ds) (strip ds)) := by
  show (D_left_number [.val (.int p), .val (.int e), .val x, .un]).res = _
  have hp' : isP (.int p) = true := by simp [isP, hp]
  have r := lead_run p e x ds h (lead ds) 0 (by omega)
  rw [show ((0 : Nat) : Int) = 0 from rfl] at r
  have t := h.tail (lead ds)
  rw [strip_drop] at t
  rcases h with rfl | rfl
  · simp only [slP_l, bind1] at t
    simp [D_left_number, f_is_prime, hp', f_is_whole, SeqI.are (.inl rfl) p hz hd, r, leftV, t]
  · simp only [slP_t, bind1] at t
    simp [D_left_number, f_is_prime, hp', f_is_whole, SeqI.are (.inr rfl) p hz hd, r, leftV, t]
theorem f_end (p e : Int) (ds : List Int) : F_end_of [leftV p e ds] = .ok (.int (e + ds.length)) := by
  show (D_end_of [.val (leftV p e ds)]).res = _
  simp [D_end_of, leftV]
theorem f_known (p e : Int) (ds : List Int) : F_known_of [leftV p e ds] = .ok (.int ds.length) := by
  show (D_known_of [.val (leftV p e ds)]).res = _
  simp [D_known_of, leftV]
@[simp] theorem eqP_tt0 : eqP (.tup []) (.tup []) = .ok (.bl true) := by rw [eqP_ok (by simp) (by simp)]; simp
end PM
set_option Elab.async false
set_option linter.all false
set_option maxRecDepth 100000
set_option autoImplicit false
namespace PM
open PySem PySem.Spec L2 PL
open PyProof.Rows hiding St
@[simp] theorem sPar_eq {i j : Nat} {f g : Rho → R PV} {ρ : Rho} : sPar i j (aCons f (aCons g aNil)) ρ = (f ρ).st ρ fun p => (g ρ).st ρ fun q => .next ((ρ.set i (.val p)).set j (.val q)) := by
  unfold sPar aCons R.st
  cases f ρ with
  | exc c => rfl
  | stuck => rfl
  | ok p => cases g ρ <;> rfl
@[simp] theorem absP_i {a : Int} : absP [.int a] = .ok (.int a.natAbs) := by
  have e : absP [.int a] = .ok (.int (if a < 0 then -a else a)) := rfl
  rw [e]
  congr 2
  split <;> omega
theorem mul_lt {a b : Int} {m n : Nat} (ha : a.natAbs < 2 ^ m) (hb : b.natAbs < 2 ^ n) {k : Nat} (hk : m + n ≤ k) : (a * b).natAbs < 2 ^ k := Nat.lt_of_lt_of_le (mul_bound ha hb) (Nat.pow_le_pow_right (by omega) hk)
theorem sz_le {a : Int} {m k : Nat} (ha : a.natAbs < 2 ^ m) (hk : m ≤ k) : a.natAbs < 2 ^ k := Nat.lt_of_lt_of_le ha (Nat.pow_le_pow_right (by omega) hk)
theorem val_ex (p : Int) (hp : 2 ≤ p) : ∀ (k : Nat) (n : Int), n.natAbs ≤ k → n ≠ 0 → ∃ (m : Int) (v : Nat), n = m * p ^ v ∧ m % p ≠ 0 := by
  intro k
  induction k with
  | zero => intro n h h0; omega
  | succ k ih =>
    intro n h h0
    by_cases hd : n % p = 0
    · have e : n / p * p = n := Int.ediv_mul_cancel (Int.dvd_of_emod_eq_zero hd)
      have hn : n / p ≠ 0 := fun z => by rw [z, Int.zero_mul] at e; exact h0 e.symm
      have hlt : (n / p).natAbs < n.natAbs := by
        have : n.natAbs = (n / p).natAbs * p.natAbs := by rw [← Int.natAbs_mul, e]
        have h1 : 0 < (n / p).natAbs := by omega
        have h2 : 2 ≤ p.natAbs := by omega
        have := Nat.mul_le_mul_left (n / p).natAbs h2
        omega
      obtain ⟨m, v, e2, hm⟩ := ih (n / p) (by omega) hn
      refine ⟨m, v + 1, ?_, hm⟩
      rw [Int.pow_succ, ← Int.mul_assoc, ← e2, e]
    · exact ⟨n, 0, by simp, hd⟩
/-- how often p divides n -/
noncomputable def vp (p n : Int) : Int := if h : 2 ≤ p ∧ n ≠ 0 then ((val_ex p h.1 n.natAbs n (Nat.le_refl _) h.2).choose_spec.choose : Nat) else 0
theorem vp_spec {p n : Int} (hp : 2 ≤ p) (hn : n ≠ 0) : ∃ (m : Int) (v : Nat), n = m * p ^ v ∧ m % p ≠ 0 ∧ vp p n = v := by
  have h : 2 ≤ p ∧ n ≠ 0 := ⟨hp, hn⟩
  have s := (val_ex p h.1 n.natAbs n (Nat.le_refl _) h.2).choose_spec.choose_spec
  exact ⟨_, _, s.1, s.2, by unfold vp; rw [dif_pos h]⟩
theorem f_exp {p n : Int} (hp : 2 ≤ p) (hp2 : p < 2 ^ 8000) (hn : n ≠ 0) : F_exponent [.int p, .int n] = .ok (.int (vp p n)) := by
  obtain ⟨m, v, e, hm, hv⟩ := vp_spec hp hn
  rw [hv]
  conv => lhs; rw [e]
  exact f_exponent p m hp hp2 hm v
theorem vp_uniq {p m n : Int} {u v : Nat} (hp : 2 ≤ p) (e : m * p ^ u = n * p ^ v) (hm : m % p ≠ 0) (hn : n % p ≠ 0) : u = v := by
  have key : ∀ {m n : Int} {u v : Nat}, m * p ^ u = n * p ^ v → m % p ≠ 0 → n % p ≠ 0 → u ≤ v := fun {m n u v} e hm hn => by
    refine Nat.le_of_not_lt fun h => hn ?_
    obtain ⟨k, rfl⟩ : ∃ k, u = v + (k + 1) := ⟨u - v - 1, by omega⟩
    rw [Int.pow_add, Int.mul_comm (p ^ v), ← Int.mul_assoc] at e
    have hpv : p ^ v ≠ 0 := Int.pow_ne_zero (by omega)
    have e2 := Int.eq_of_mul_eq_mul_right hpv e
    rw [← e2, Int.pow_succ, ← Int.mul_assoc]
    exact Int.mul_emod_left _ _
  exact Nat.le_antisymm (key e hm hn) (key e.symm hn hm)
end PM
namespace PM
end PM
namespace PM
open PySem PySem.Spec L2 PL
open PyProof.Rows hiding St
theorem stp {i : Nat} {f : Rho → R PV} {k : Rho → Out} {ρ : Rho} (p : PV) {r : R PV} (h : f ρ = .ok p) (g : (k (ρ.set i (.val p))).res = r) : (bSeq (sSet i f) k ρ).res = r := by
  rw [bSeq_eq, sSet_eq, h, st_ok, then_next]; exact g
theorem skp {t : Rho → R Bool} {u k : Rho → Out} {ρ : Rho} {r : R PV} (h : t ρ = .ok false) (g : (k ρ).res = r) : (bSeq (sIf t u bNil) k ρ).res = r := by
  rw [bSeq_eq, sIf_eq, h, stB_ok, if_neg Bool.false_ne_true, bNil_eq, then_next]; exact g
end PM
namespace PM
open PySem PySem.Spec L2 PL
open PyProof.Rows hiding St
@[simp] theorem isX0 {a : Addr} {b : Bool} {ρ : Rho} : isX 0 a b (.ex a :: ρ) = .ok (.bl b) := by
  have e : isX 0 a b (.ex a :: ρ) = (if a = a then .ok (.bl b) else .stuck) := rfl
  rw [e, if_pos rfl]
@[simp] theorem isXs {i : Nat} {a : Addr} {b : Bool} {s : Slot} {ρ : Rho} : isX (i + 1) a b (s :: ρ) = isX i a b ρ := by simp [isX]
@[simp] theorem hotCs {i : Nat} {a : Addr} {F : Addr → R PV} {s : Slot} {ρ : Rho} : hotC (i + 1) a F (s :: ρ) = hotC i a F ρ := by simp [hotC]
@[simp] theorem behind_next {i : Nat} {ρ : Rho} : behindX i (.next ρ) = .next (ρ.set i .un) := nr rfl
@[simp] theorem behind_ret {i : Nat} {p : PV} : behindX i (.ret p) = .ret p := nr rfl
end PM
set_option Elab.async false
set_option linter.all false
set_option maxRecDepth 100000
set_option autoImplicit false
set_option exponentiation.threshold 20000
namespace PM
open PySem PySem.Spec L2 PL
open PyProof.Rows hiding St
def Dg (p : Int) (ds : List Int) : Prop := ∀ d ∈ ds, 0 ≤ d ∧ d < p
def U (p : Int) : List Int → Int
  | [] => 0
  | d :: r => U p r * p + d
theorem Dg.tail {p d : Int} {r : List Int} (h : Dg p (d :: r)) : Dg p r := fun x hx => h x (List.mem_cons_of_mem _ hx)
theorem U_nonneg {p : Int} (hp : 2 ≤ p) : ∀ {ds : List Int}, Dg p ds → 0 ≤ U p ds ∧ U p ds < p ^ ds.length
  | [], _ => by simp [U]
  | d :: r, h => by
    obtain ⟨h1, h2⟩ := U_nonneg hp h.tail
    obtain ⟨h3, h4⟩ := h d List.mem_cons_self
    rw [List.length_cons, Int.pow_succ]
    unfold U
    have h5 : 0 ≤ U p r * p := Int.mul_nonneg h1 (by omega)
    have h6 : (U p r + 1) * p ≤ p ^ r.length * p := Int.mul_le_mul_of_nonneg_right (by omega) (by omega)
    rw [Int.add_mul] at h6
    omega
theorem pow_sz {p : Int} (hp : 2 ≤ p) (hp2 : p ≤ 97) (n : Nat) : (p ^ n).natAbs < 2 ^ (7 * n + 1) := pow_bound (m := 7) (by omega) n
theorem lt_sz {x : Int} {n : Nat} {p : Int} (hp : 2 ≤ p) (hp2 : p ≤ 97) (h0 : 0 ≤ x) (h : x < p ^ n) : x.natAbs < 2 ^ (7 * n + 1) := by
  have := pow_sz hp hp2 n
  omega
theorem unit_run (p : Int) (hp : 2 ≤ p) (hp2 : p ≤ 97) (x : PV) (hx : ixP x (.int 0) = .ok (.int p)) : ∀ (l : List Int) (acc : Int) (s : Slot) (j : Nat), Dg p l → 0 ≤ acc → acc < p ^ j → j + l.length ≤ 2000 →
    ∃ s', forL (gN 2) (bSeq (sSet 1 (e2 addP (e2 mulP (eVo 1) (e2 ixP (eVo 0) (eC (.int 0)))) (eVo 2))) bNil) (l.map PV.int) [.val x, .val (.int acc), s] = .next [.val x, .val (.int (l.foldl (fun a d => a * p + d) acc)), s'] := by
  intro l
  induction l with
  | nil => intro acc s j _ _ _ _; exact ⟨s, rfl⟩
  | cons d r ih =>
    intro acc s j hd h0 h1 hl
    rw [List.length_cons] at hl
    obtain ⟨h3, h4⟩ := hd d List.mem_cons_self
    have m : mulP (.int acc) (.int p) = .ok (.int (acc * p)) := mulP_ii (okMul_of (m := 7 * j + 1) (n := 7) (lt_sz hp hp2 h0 h1) (by omega) (by omega) (by omega) (by omega))
    have h5 : 0 ≤ acc * p := Int.mul_nonneg h0 (by omega)
    have h6 : (acc + 1) * p ≤ p ^ j * p := Int.mul_le_mul_of_nonneg_right (by omega) (by omega)
    rw [Int.add_mul] at h6
    obtain ⟨s', e⟩ := ih (acc * p + d) (.val (.int d)) (j + 1) hd.tail (by omega) (by rw [Int.pow_succ]; omega) (by omega)
    refine ⟨s', ?_⟩
    rw [List.map_cons, forL_cons]
    simp [hx, m, e]
theorem foldl_U (p : Int) (ds : List Int) : ds.reverse.foldl (fun a d => a * p + d) 0 = U p ds := by
  rw [List.foldl_reverse]
  induction ds with
  | nil => rfl
  | cons d r ih => rw [List.foldr_cons, ih]; rfl
theorem f_unit (p e : Int) (ds : List Int) (hp : 2 ≤ p) (hp2 : p ≤ 97) (hd : Dg p ds) (hl : ds.length ≤ 1900) : F_unit_of [leftV p e ds] = .ok (.int (U p ds)) := by
  refine (runF_eq (n := 3) (u := D_unit_of)).trans ?_
  show (D_unit_of [.val (leftV p e ds), .un, .un]).res = _
  obtain ⟨s', r⟩ := unit_run p hp hp2 (leftV p e ds) (by simp [leftV]) ds.reverse 0 .un 0 (fun d h => hd d (List.mem_reverse.mp h)) (by omega) (by simp) (by simp; omega)
  rw [foldl_U, List.map_reverse] at r
  have e2 : ixP (leftV p e ds) (.int 2) = .ok (.tup (ds.map PV.int)) := by simp [leftV]
  simp [D_unit_of, e2, r]
def digs (p : Int) : Int → Nat → List Int
  | _, 0 => []
  | n, k + 1 => (n % p) :: digs p (n / p) k
theorem digs_len (p : Int) : ∀ (k : Nat) (n : Int), (digs p n k).length = k
  | 0, _ => rfl
  | k + 1, n => by unfold digs; rw [List.length_cons, digs_len p k]
theorem digs_Dg {p : Int} (hp : 2 ≤ p) : ∀ (k : Nat) (n : Int), Dg p (digs p n k)
  | 0, _ => fun _ h => nomatch h
  | k + 1, n => fun d h => by
    unfold digs at h
    rcases List.mem_cons.mp h with rfl | h
    · exact ⟨Int.emod_nonneg _ (by omega), Int.emod_lt_of_pos _ (by omega)⟩
    · exact digs_Dg hp k _ d h
theorem U_digs {p : Int} (hp : 2 ≤ p) : ∀ (k : Nat) (n : Int), U p (digs p n k) = n % p ^ k
  | 0, n => by simp [digs, U]
  | k + 1, n => by
    unfold digs U
    rw [U_digs hp k]
    have h1 : n % p + p * (n / p) = n := by have := Int.mul_ediv_add_emod n p; omega
    have h2 : n / p % p ^ k + p ^ k * (n / p / p ^ k) = n / p := by have := Int.mul_ediv_add_emod (n / p) (p ^ k); omega
    have hpk : 0 < p ^ k := Int.pow_pos (by omega)
    have b1 := Int.emod_nonneg n (show p ≠ 0 by omega)
    have b2 := Int.emod_lt_of_pos n (show 0 < p by omega)
    have b3 := Int.emod_nonneg (n / p) (show p ^ k ≠ 0 by omega)
    have b4 := Int.emod_lt_of_pos (n / p) hpk
    obtain ⟨q, hq⟩ : ∃ q, q = n / p / p ^ k := ⟨_, rfl⟩
    obtain ⟨r, hr⟩ : ∃ r, r = n / p % p ^ k := ⟨_, rfl⟩
    rw [← hq, ← hr] at h2
    rw [← hr] at b3 b4 ⊢
    have e : n = (r * p + n % p) + p ^ (k + 1) * q := by
      rw [Int.pow_succ]
      have : p * (n / p) = p * r + p ^ k * p * q := by
        rw [← h2, Int.mul_add, ← Int.mul_assoc, Int.mul_comm p (p ^ k)]
      rw [Int.mul_comm r p]
      omega
    have b5 : 0 ≤ r * p := Int.mul_nonneg b3 (by omega)
    have b6 : (r + 1) * p ≤ p ^ k * p := Int.mul_le_mul_of_nonneg_right (by omega) (by omega)
    have ps : p ^ (k + 1) = p ^ k * p := Int.pow_succ p k
    rw [Int.add_mul, ← ps] at b6
    conv => rhs; rw [e, Int.add_mul_emod_self_left]
    exact (Int.emod_eq_of_lt (by omega) (by omega)).symm
theorem whole_run (p : Int) (hp : 2 ≤ p) (hp2 : p ≤ 97) (a1 a3 : PV) : ∀ (items : List PV) (n : Int) (figs : List Int) (s5 s6 : Slot), figs.length + items.length ≤ 5000 →
    ∃ n' s5' s6', forL (gN 5) (bSeq (sTo (gT (gsCons (gN 2) (gsCons (gN 6) gsNil))) (eD divmodP (aCons (eVo 2) (aCons (eVo 0) aNil)))) (bSeq (sMut 4 appP (eV 6)) bNil)) items [.val (.int p), .val a1, .val (.int n), .val a3, .own (figs.map PV.int), s5, s6] = .next [.val (.int p), .val a1, .val (.int n'), .val a3, .own ((figs ++ digs p n items.length).map PV.int), s5', s6'] := by
  intro items
  induction items with
  | nil => intro n figs s5 s6 _; exact ⟨n, s5, s6, by simp [digs]⟩
  | cons q qs ih =>
    intro n figs s5 s6 hl
    rw [List.length_cons] at hl
    have dm := divmodP_pos (a := n) (b := p) (by omega) (by omega)
    obtain ⟨n', s5', s6', e⟩ := ih (n / p) (figs ++ [n % p]) (.val q) (.val (.int (n % p))) (by rw [List.length_append, List.length_singleton]; omega)
    refine ⟨n', s5', s6', ?_⟩
    have ap : appP (figs.map PV.int) (.int (n % p)) = .ok ((figs ++ [n % p]).map PV.int) := by rw [appP_ok (by rw [List.length_map]; omega), List.map_append]; rfl
    rw [forL_cons, List.length_cons]
    simp only [gN_eq, onR_some, List.set_cons_succ, List.set_cons_zero, bSeq_eq, sTo_eq, eD_eq, aCons_eq, aNil_eq, eVo0, eVos, bind1, dm, st_ok, gT_eq, gsCons_eq, gsNil_eq, Option.bind_some, then_next, sMut_eq, getOwn0, getOwnS, onOwn_some, eV0, eVs, ap, own_ok, bNil_eq, fo_next, e]
    rw [show digs p n (qs.length + 1) = (n % p) :: digs p (n / p) qs.length from rfl, List.append_assoc, List.singleton_append]
theorem f_of_whole (p e n : Int) (k : Nat) (hp : p ∈ primesL) (hk : k ≤ 5000) : F_of_whole [.int p, .int e, .int n, .int k] = .ok (leftV p (e + lead (digs p n k)) (strip (digs p n k))) := by
  refine (runF_eq (n := 7) (u := D_of_whole)).trans ?_
  show (D_of_whole [.val (.int p), .val (.int e), .val (.int n), .val (.int k), .un, .un, .un]).res = _
  have hpb := primesL_le p hp
  have hr : rng1 [.int (k : Int)] = .ok (rngL 0 k) := by rw [rng1_sm (by omega) (by omega)]; rfl
  obtain ⟨n', s5, s6, r⟩ := whole_run p hpb.1 hpb.2 (.int e) (.int k) (rngL 0 k) n [] .un .un (by rw [rngL_len]; simp; omega)
  rw [rngL_len, List.nil_append] at r
  have l := f_left p e (.lst ((digs p n k).map PV.int)) (digs p n k) hp (.inl rfl) (by rw [digs_len]; omega) (digs_Dg hpb.1 k n)
  simp only [List.map_nil] at r
  simp [D_of_whole, hr, r, l]
theorem head_lead {ds : List Int} (h : ds.head? ≠ some 0) : lead ds = 0 ∧ strip ds = ds := by
  cases ds with
  | nil => exact ⟨rfl, rfl⟩
  | cons d r =>
    have hd : (d == 0) = false := by simpa using h
    constructor
    · unfold lead; simp [hd]
    · unfold strip; simp [hd]
theorem strip_head' (ds : List Int) : (strip ds).head? ≠ some 0 := by
  cases h : strip ds with
  | nil => simp
  | cons d r =>
    have := strip_head ds d r h
    simpa using this
theorem strip_Dg {p : Int} {ds : List Int} (h : Dg p ds) : Dg p (strip ds) := fun d hd => h d (strip_mem ds d hd)
/-- a left number in its form -/
structure Lf (p : Int) (ds : List Int) (n : Nat) : Prop where
  pr : p ∈ primesL
  dg : Dg p ds
  hd : ds.head? ≠ some 0
  len : ds.length ≤ n
theorem Lf.b {p : Int} {ds : List Int} {n : Nat} (h : Lf p ds n) : 2 ≤ p ∧ p ≤ 97 := primesL_le p h.pr
theorem lf_strip {p : Int} {ds : List Int} {n : Nat} (hp : p ∈ primesL) (hd : Dg p ds) (hl : ds.length ≤ n) : Lf p (strip ds) n := ⟨hp, strip_Dg hd, strip_head' ds, by rw [strip_len]; omega⟩
end PM
namespace PM
open PL
theorem log2_le_lt {a b m : Nat} (h : a ≤ b) (hb : b.log2 < m) : a.log2 < m := by
  by_cases h0 : a = 0
  · subst h0; rw [Nat.log2_zero]; omega
  · exact (Nat.log2_lt h0).mpr (Nat.lt_of_le_of_lt h ((Nat.log2_lt (by omega)).mp hb))
theorem okMul_log {a b : Int} {m n : Nat} (ha : a.natAbs.log2 < m) (hb : b.natAbs.log2 < n) (h : m + n ≤ 100000000) : okMul a b = true := decide_eq_true (by omega)
theorem nth_log (ns : List Int) (hb : ∀ z ∈ ns, z.natAbs.log2 < 1048577) (k : Int) : (nth ns k).natAbs.log2 < 1048577 := by
  unfold nth
  rw [List.getD_eq_getElem?_getD]
  cases h : ns[k.toNat]? with
  | none => simp
  | some z => exact hb z (List.mem_of_getElem? h)
end PM
namespace PM
open PySem PySem.Spec L2 PL
open PyProof.Rows hiding St
theorem U_cons (p d : Int) (r : List Int) : U p (d :: r) = U p r * p + d := rfl
theorem U_strip (p : Int) : ∀ ds : List Int, U p ds = U p (strip ds) * p ^ lead ds
  | [] => by simp [U, strip]
  | d :: r => by
    by_cases h : d = 0
    · subst h
      have e1 : lead (0 :: r) = lead r + 1 := by unfold lead; simp
      have e2 : strip (0 :: r) = strip r := by unfold strip; simp
      rw [e1, e2]
      rw [U_cons, U_strip p r, Int.pow_succ, Int.add_zero, Int.mul_assoc]
    · have hl := head_lead (ds := d :: r) (by simpa using h)
      rw [hl.1, hl.2, Int.pow_zero, Int.mul_one]
end PM
namespace PM
open PySem PySem.Spec L2 PL
open PyProof.Rows hiding St
end PM
set_option Elab.async false
set_option linter.all false
set_option maxRecDepth 100000
set_option autoImplicit false
set_option exponentiation.threshold 20000
namespace PM
open PySem PySem.Spec L2 PL
open PyProof.Rows hiding St
/-- alike but for multiples -/
def Mo (m x y : Int) : Prop := ∃ z, x = y + m * z
theorem Mo.refl (m x : Int) : Mo m x x := ⟨0, by simp⟩
theorem Mo.of_eq {m x y : Int} (h : x = y) : Mo m x y := h ▸ Mo.refl m x
theorem Mo.symm {m x y : Int} (h : Mo m x y) : Mo m y x := by obtain ⟨z, h⟩ := h; exact ⟨-z, by grind⟩
theorem Mo.trans {m x y w : Int} (h : Mo m x y) (g : Mo m y w) : Mo m x w := by
  obtain ⟨z, h⟩ := h; obtain ⟨u, g⟩ := g; exact ⟨z + u, by grind⟩
theorem Mo.add {m x y u v : Int} (h : Mo m x y) (g : Mo m u v) : Mo m (x + u) (y + v) := by
  obtain ⟨z, h⟩ := h; obtain ⟨w, g⟩ := g; exact ⟨z + w, by grind⟩
theorem Mo.sub {m x y u v : Int} (h : Mo m x y) (g : Mo m u v) : Mo m (x - u) (y - v) := by
  obtain ⟨z, h⟩ := h; obtain ⟨w, g⟩ := g; exact ⟨z - w, by grind⟩
theorem Mo.mul {m x y u v : Int} (h : Mo m x y) (g : Mo m u v) : Mo m (x * u) (y * v) := by
  obtain ⟨z, h⟩ := h; obtain ⟨w, g⟩ := g; exact ⟨y * w + z * v + m * z * w, by subst h g; grind⟩
theorem Mo.dvd {m k x y : Int} (h : Mo (m * k) x y) : Mo m x y := by
  obtain ⟨z, h⟩ := h; exact ⟨k * z, by rw [h, Int.mul_assoc]⟩
theorem Mo.scale {m x y : Int} (k : Int) (h : Mo m x y) : Mo (m * k) (x * k) (y * k) := by
  obtain ⟨z, h⟩ := h; exact ⟨z, by subst h; grind⟩
theorem Mo.emod (m x : Int) : Mo m (x % m) x := ⟨-(x / m), by have := Int.mul_ediv_add_emod x m; grind⟩
theorem Mo.eq {m x y : Int} (h : Mo m x y) : x % m = y % m := by
  obtain ⟨z, h⟩ := h; rw [h, Int.add_mul_emod_self_left]
theorem pow_split (p : Int) {a b : Nat} (h : a ≤ b) : p ^ b = p ^ a * p ^ (b - a) := by rw [← Int.pow_add]; congr 1; omega
theorem Mo.low {p x y : Int} {a b : Nat} (h : Mo (p ^ b) x y) (hab : a ≤ b) : Mo (p ^ a) x y := by
  rw [pow_split p hab] at h; exact h.dvd
/-- the figures' sum over a base -/
def V (p b e : Int) (ds : List Int) : Int := U p ds * p ^ (e - b).toNat
theorem V_self (p e : Int) (ds : List Int) : V p e e ds = U p ds := by unfold V; rw [Int.sub_self]; simp
theorem V_shift (p : Int) {b c e : Int} (ds : List Int) (h : b ≤ c) (h2 : c ≤ e) : V p b e ds = V p c e ds * p ^ (c - b).toNat := by
  unfold V; rw [Int.mul_assoc, ← Int.pow_add]; congr 2; omega
theorem digs_mo {p : Int} (hp : 2 ≤ p) : ∀ (k : Nat) {x y : Int}, Mo (p ^ k) x y → digs p x k = digs p y k
  | 0, _, _, _ => rfl
  | k + 1, x, y, h => by
    obtain ⟨z, h⟩ := h
    rw [Int.pow_succ] at h
    have e1 : x = y + p * (p ^ k * z) := by rw [h]; grind
    have e2 : x / p = y / p + p ^ k * z := by rw [e1, Int.add_mul_ediv_left _ _ (by omega)]
    rw [show digs p x (k + 1) = x % p :: digs p (x / p) k from rfl, show digs p y (k + 1) = y % p :: digs p (y / p) k from rfl, digs_mo hp k ⟨z, e2⟩, e1, Int.add_mul_emod_self_left]
/-- one goes on where the other ends -/
structure Ext (p e' : Int) (ds' : List Int) (e : Int) (ds : List Int) : Prop where
  le : e ≤ e'
  en : e + ds.length ≤ e' + ds'.length
  mo : Mo (p ^ ds.length) (V p e e' ds') (U p ds)
theorem Ext.refl (p e : Int) (ds : List Int) : Ext p e ds e ds := ⟨Int.le_refl _, Int.le_refl _, by rw [V_self]; exact Mo.refl _ _⟩
theorem Ext.base {p e' e : Int} {ds' ds : List Int} (h : Ext p e' ds' e ds) {b : Int} (hb : b ≤ e) : Mo (p ^ (e + ds.length - b).toNat) (V p b e' ds') (V p b e ds) := by
  rw [V_shift p ds' hb h.le, V_shift p ds hb (Int.le_refl e), V_self, show (e + ds.length - b).toNat = ds.length + (e - b).toNat by omega, Int.pow_add]
  exact h.mo.scale _
end PM
namespace PM
open PySem PySem.Spec L2 PL
open PyProof.Rows hiding St
theorem prime_mul : ∀ p ∈ primesN, ∀ a : Nat, a < p → ∀ b : Nat, b < p → a ≠ 0 → b ≠ 0 → a * b % p ≠ 0 := by decide +kernel
theorem prime_mulI {p a b : Int} (hp : p ∈ primesL) (ha : a % p ≠ 0) (hb : b % p ≠ 0) : a * b % p ≠ 0 := by
  have hpb := primesL_le p hp
  rw [Int.mul_emod]
  have a1 := Int.emod_nonneg a (show p ≠ 0 by omega)
  have a2 := Int.emod_lt_of_pos a (show 0 < p by omega)
  have b1 := Int.emod_nonneg b (show p ≠ 0 by omega)
  have b2 := Int.emod_lt_of_pos b (show 0 < p by omega)
  have e2 : primesL = primesN.map fun (n : Nat) => (n : Int) := rfl
  rw [e2] at hp
  obtain ⟨n, hn, rfl⟩ := List.mem_map.mp hp
  obtain ⟨x, hx⟩ : ∃ x : Nat, a % (n : Int) = x := ⟨(a % (n : Int)).toNat, by omega⟩
  obtain ⟨y, hy⟩ : ∃ y : Nat, b % (n : Int) = y := ⟨(b % (n : Int)).toNat, by omega⟩
  rw [hx, hy]
  rw [hx] at ha a2
  rw [hy] at hb b2
  have := prime_mul n hn x (by omega) y (by omega) (by omega) (by omega)
  rw [← Int.natCast_mul, ← Int.natCast_emod]
  omega
end PM
namespace PM
open PySem PySem.Spec L2 PL
open PyProof.Rows hiding St
theorem Lf.le {p : Int} {ds : List Int} {n m : Nat} (h : Lf p ds n) (hm : n ≤ m) : Lf p ds m := ⟨h.pr, h.dg, h.hd, Nat.le_trans h.len hm⟩
theorem ixT (p e : Int) (ds : List Int) : ixP (leftV p e ds) (.int 0) = .ok (.int p) ∧ ixP (leftV p e ds) (.int 1) = .ok (.int e) ∧ ixP (leftV p e ds) (.int 2) = .ok (.tup (ds.map PV.int)) := by simp [leftV]
end PM
set_option Elab.async false
set_option linter.all false
set_option maxRecDepth 100000
set_option autoImplicit false
set_option exponentiation.threshold 20000
namespace PM
open PySem PySem.Spec L2 PL
open PyProof.Rows hiding St
theorem prime_cop : ∀ p ∈ primesN, ∀ a : Nat, a < p → a ≠ 0 → Nat.gcd a p = 1 := by decide +kernel
theorem gcd_mod (a w : Int) : Int.gcd (a % w) w = Int.gcd a w := by
  have e : a = a % w + w * (a / w) := by have := Int.mul_ediv_add_emod a w; omega
  conv => rhs; rw [e]
  rw [Int.gcd_add_mul_left_left]
theorem prime_gcd {p a : Int} (hp : p ∈ primesL) (ha : a % p ≠ 0) (k : Nat) : Int.gcd a (p ^ k) = 1 := by
  have hpb := primesL_le p hp
  have e2 : primesL = primesN.map fun (n : Nat) => (n : Int) := rfl
  rw [e2] at hp
  obtain ⟨n, hn, rfl⟩ := List.mem_map.mp hp
  obtain ⟨x, hx⟩ : ∃ x : Nat, a % (n : Int) = x := ⟨(a % (n : Int)).toNat, by have := Int.emod_nonneg a (show (n : Int) ≠ 0 by omega); omega⟩
  have hlt := Int.emod_lt_of_pos a (show 0 < (n : Int) by omega)
  rw [hx] at ha hlt
  have g := prime_cop n hn x (by omega) (by omega)
  have e : Int.gcd a (n : Int) = 1 := by
    have h1 : Int.gcd (a % (n : Int)) (n : Int) = Int.gcd a (n : Int) := gcd_mod _ _
    rw [← h1, hx]; exact g
  have e3 : Nat.Coprime a.natAbs (n ^ k) := Nat.Coprime.pow_right k e
  show Nat.gcd a.natAbs ((n : Int) ^ k).natAbs = 1
  rw [Int.natAbs_pow]; exact e3
theorem le_of_mul_le {a x w : Int} (hx : 0 < x) (ha : 0 ≤ a) (h : a * x ≤ w) : a ≤ w := by
  have := Int.mul_le_mul_of_nonneg_left (show 1 ≤ x by omega) ha
  omega
theorem bez_step {u v s r x y w : Int} (hy : 0 ≤ y) (hs : 0 ≤ s) (hx : x = s * y + r) (h : (u.natAbs : Int) * y + (v.natAbs : Int) * x ≤ w) : (v.natAbs : Int) * r + ((u - s * v).natAbs : Int) * y ≤ w := by
  have h1 : ((u - s * v).natAbs : Int) ≤ u.natAbs + s * v.natAbs := by
    have e : ((s * v).natAbs : Int) = s * v.natAbs := by rw [Int.natAbs_mul]; have : (s.natAbs : Int) = s := by omega
                                                         rw [Int.natCast_mul, this]
    omega
  have h2 := Int.mul_le_mul_of_nonneg_right h1 hy
  have h3 : (v.natAbs : Int) * r + ((u.natAbs : Int) + s * v.natAbs) * y = (u.natAbs : Int) * y + (v.natAbs : Int) * x := by rw [hx]; grind
  omega
end PM
namespace PM
open PySem PySem.Spec L2 PL
open PyProof.Rows hiding St
/-- a slot set again under a condition -/
theorem stpW {i : Nat} {t : Rho → R Bool} {f : Rho → R PV} {k : Rho → Out} {ρ : Rho} {r : R PV} (b : Bool) (v old w : PV) (ht : t ρ = .ok b) (hf : b = true → f ρ = .ok v) (ho : ρ.set i (.val old) = ρ) (hw : w = if b = true then v else old) (g : (k (ρ.set i (.val w))).res = r) : (bSeq (sIf t (bSeq (sSet i f) bNil) bNil) k ρ).res = r := by
  rw [bSeq_eq, sIf_eq, ht, stB_ok]
  cases b with
  | true =>
    rw [if_pos rfl] at hw
    subst hw
    rw [if_pos rfl, bSeq_eq, sSet_eq, hf rfl, st_ok, then_next, bNil_eq, then_next]; exact g
  | false =>
    rw [if_neg Bool.false_ne_true] at hw
    subst hw
    rw [ho] at g
    rw [if_neg Bool.false_ne_true, bNil_eq, then_next]; exact g
theorem neTup {ds : List Int} : eqP (.tup (ds.map PV.int)) (.tup []) = .ok (.bl (decide (ds = []))) := by
  cases ds with
  | nil => rw [eqP_ok (by simp) (by simp)]; simp
  | cons d r => rw [eqP_ok (by simp) (by simp)]; simp
theorem neTup' {ds : List Int} : neP (.tup (ds.map PV.int)) (.tup []) = .ok (.bl (!decide (ds = []))) := by
  cases ds with
  | nil => rw [neP_ok (by simp) (by simp)]; simp
  | cons d r => rw [neP_ok (by simp) (by simp)]; simp
theorem eqLeft (p e : Int) (ds : List Int) : eqP (leftV p e ds) (leftV p e ds) = .ok (.bl true) := by
  rw [eqP_ok (by simp [leftV]) (by simp [leftV])]
  simp [leftV, eqVs_ints]
end PM
namespace PM
open PySem PySem.Spec L2 PL
open PyProof.Rows hiding St
end PM
set_option Elab.async false
set_option linter.all false
set_option maxRecDepth 100000
set_option autoImplicit false
set_option exponentiation.threshold 20000
namespace PM
open PySem PySem.Spec L2 PL
open PyProof.Rows hiding St
/-- two neighbours of the row of rests -/
structure Nb (W u z r s v w : Int) : Prop where
  cr : Mo W r (u * s)
  cv : Mo W v (u * w)
  sg : (0 < w ∧ s ≤ 0 ∧ r * w - v * s = W) ∨ (w < 0 ∧ 0 ≤ s ∧ r * w - v * s = -W)
  rz : z < r
  v0 : 0 ≤ v
  vr : v < r
  rW : r ≤ W
  sW : -W ≤ s ∧ s ≤ W
theorem Nb.wW {W u z r s v w : Int} (h : Nb W u z r s v w) (hz : 1 ≤ z) : -W ≤ w ∧ w ≤ W := by
  have hr := h.rz
  have v0 := h.v0
  have hW := h.rW
  rcases h.sg with ⟨h1, h2, h3⟩ | ⟨h1, h2, h3⟩
  · have : v * s ≤ 0 := Int.mul_nonpos_of_nonneg_of_nonpos v0 h2
    have := le_of_mul_le (a := w) (x := r) (w := W) (by omega) (by omega) (by rw [Int.mul_comm]; omega)
    omega
  · have e : 0 ≤ v * s := Int.mul_nonneg v0 h2
    have := le_of_mul_le (a := -w) (x := r) (w := W) (by omega) (by omega) (by rw [Int.neg_mul, Int.mul_comm]; omega)
    omega
theorem Nb.step {W u z r s v w : Int} (h : Nb W u z r s v w) (hz : 1 ≤ z) (hv : z < v) : Nb W u z v w (r % v) (s - r / v * w) := by
  have v0 := h.v0
  have vr := h.vr
  have rW := h.rW
  have ww := h.wW hz
  have q1 : 1 ≤ r / v := (Int.le_ediv_iff_mul_le (by omega)).mpr (by omega)
  have er : r / v * v + r % v = r := by have := Int.mul_ediv_add_emod r v; rw [Int.mul_comm] at this; exact this
  have m0 := Int.emod_nonneg r (show v ≠ 0 by omega)
  have m1 := Int.emod_lt_of_pos r (show 0 < v by omega)
  generalize r / v = q at *
  generalize r % v = m at *
  have det : v * (s - q * w) - m * w = -(r * w - v * s) := by rw [← er]; grind
  refine ⟨h.cv, ?_, ?_, hv, m0, m1, by omega, ww⟩
  · have t := h.cr.sub ((Mo.refl W q).mul h.cv)
    have e : r - q * v = m := by omega
    rw [e] at t
    exact t.trans (.of_eq (by grind))
  · rcases h.sg with ⟨h1, h2, h3⟩ | ⟨h1, h2, h3⟩
    · have : 1 * w ≤ q * w := Int.mul_le_mul_of_nonneg_right q1 (by omega)
      exact .inr ⟨by omega, by omega, by rw [det]; omega⟩
    · have : q * w ≤ 1 * w := Int.mul_le_mul_of_nonpos_right q1 (by omega)
      exact .inl ⟨by omega, by omega, by rw [det]; omega⟩
end PM
set_option Elab.async false
set_option linter.all false
set_option maxRecDepth 100000
set_option autoImplicit false
set_option exponentiation.threshold 20000
namespace PM
open PySem PySem.Spec L2 PL
open PyProof.Rows hiding St
theorem dvd_cop {y x b : Int} (h : y ∣ x * b) (g : Int.gcd y x = 1) : y ∣ b := by
  have h1 : y.natAbs ∣ x.natAbs * b.natAbs := by rw [← Int.natAbs_mul]; exact Int.natAbs_dvd_natAbs.mpr h
  exact Int.natAbs_dvd_natAbs.mp (Nat.Coprime.dvd_of_dvd_mul_left (k := y.natAbs) g h1)
end PM
namespace PM
open PySem PySem.Spec L2 PL
open PyProof.Rows hiding St
theorem stpFor {it : Rho → R (List PV)} {tgt : PV → Rho → Option Rho} {body k : Rho → Out} {ρ : Rho} {r : R PV} (items : List PV) (ρ' : Rho) (hi : it ρ = .ok items) (hf : forL tgt body items ρ = .next ρ') (g : (k ρ').res = r) : (bSeq (sFor it tgt body) k ρ).res = r := by
  rw [bSeq_eq, sFor_eq, hi, stL_ok, hf, then_next]; exact g
end PM
set_option Elab.async false
set_option linter.all false
set_option maxRecDepth 100000
set_option autoImplicit false
set_option exponentiation.threshold 20000
namespace PM
open PySem PySem.Spec L2 PL
open PyProof.Rows hiding St
end PM
set_option Elab.async false
set_option linter.all false
set_option maxRecDepth 100000
set_option autoImplicit false
set_option exponentiation.threshold 20000
namespace PM
open PySem PySem.Spec L2 PL
open PyProof.Rows hiding St
end PM
set_option Elab.async false
set_option linter.all false
set_option maxRecDepth 100000
set_option autoImplicit false
set_option exponentiation.threshold 20000
namespace PM
/-- the sum in A ^ n - B ^ n = (A - B) .. -/
def Gm (A B : Int) : Nat → Int
  | 0 => 0
  | n + 1 => A ^ n + B * Gm A B n
theorem Gm_eq (A B : Int) : ∀ n : Nat, A ^ n = B ^ n + (A - B) * Gm A B n
  | 0 => by simp [Gm]
  | n + 1 => by
    have ih := Gm_eq A B n
    have e : Gm A B (n + 1) = A ^ n + B * Gm A B n := rfl
    rw [e, Int.pow_succ, Int.pow_succ]
    grind
theorem pow_one_up (B D : Int) : ∀ n : Nat, ∃ w, (B + D) ^ n = B ^ n + D * w
  | 0 => ⟨0, by simp⟩
  | n + 1 => by
    obtain ⟨w, h⟩ := pow_one_up B D n
    exact ⟨B ^ n + w * (B + D), by rw [Int.pow_succ, Int.pow_succ, h]; grind⟩
theorem pow_two_up (B D : Int) : ∀ n : Nat, ∃ w, (B + D) ^ (n + 1) = B ^ (n + 1) + (n + 1) * D * B ^ n + D * D * w
  | 0 => ⟨0, by simp [Int.pow_succ]⟩
  | n + 1 => by
    obtain ⟨w, h⟩ := pow_two_up B D n
    refine ⟨(n + 1) * B ^ n + w * (B + D), ?_⟩
    rw [Int.pow_succ, h, Int.pow_succ B (n + 1), Int.pow_succ B n]
    have e : ((n + 1 : Nat) : Int) = (n : Int) + 1 := by omega
    rw [e]
    grind
/-- modulo the difference -/
theorem Gm_mod1 (B D : Int) : ∀ n : Nat, ∃ w, Gm (B + D) B (n + 1) = (n + 1) * B ^ n + D * w
  | 0 => ⟨0, by simp [Gm]⟩
  | n + 1 => by
    obtain ⟨w, h⟩ := Gm_mod1 B D n
    obtain ⟨v, g⟩ := pow_one_up B D (n + 1)
    refine ⟨v + B * w, ?_⟩
    have e : Gm (B + D) B (n + 1 + 1) = (B + D) ^ (n + 1) + B * Gm (B + D) B (n + 1) := rfl
    have e2 : ((n + 1 : Nat) : Int) = (n : Int) + 1 := by omega
    rw [e, h, g, e2, Int.pow_succ]
    grind
/-- modulo its square, twice -/
theorem Gm_mod2 (B D : Int) : ∀ n : Nat, ∃ w, 2 * Gm (B + D) B (n + 2) = 2 * (n + 2) * B ^ (n + 1) + (n + 2) * (n + 1) * D * B ^ n + 2 * (D * D) * w
  | 0 => ⟨0, by simp [Gm]; grind⟩
  | n + 1 => by
    obtain ⟨w, h⟩ := Gm_mod2 B D n
    obtain ⟨v, g⟩ := pow_two_up B D (n + 1)
    refine ⟨v + B * w, ?_⟩
    have e : Gm (B + D) B (n + 1 + 2) = (B + D) ^ (n + 2) + B * Gm (B + D) B (n + 2) := rfl
    have e2 : ((n + 1 : Nat) : Int) = (n : Int) + 1 := by omega
    rw [e, Int.mul_add, g, e2]
    rw [e2] at g
    have h' : 2 * (B * Gm (B + D) B (n + 2)) = B * (2 * (n + 2) * B ^ (n + 1) + (n + 2) * (n + 1) * D * B ^ n + 2 * (D * D) * w) := by rw [← h]; grind
    rw [h', Int.pow_succ B (n + 1), Int.pow_succ B n]
    grind
theorem pow_ne {p B : Int} (hp : p ∈ primesL) (hB : B % p ≠ 0) : ∀ n : Nat, B ^ n % p ≠ 0
  | 0 => by
    have := primesL_le p hp
    rw [Int.pow_zero, Int.emod_eq_of_lt (by omega) (by omega)]; omega
  | n + 1 => by rw [Int.pow_succ]; exact prime_mulI hp (pow_ne hp hB n) hB
theorem ne_add {p a b : Int} (ha : a % p ≠ 0) : (a + p * b) % p ≠ 0 := by rw [Int.add_mul_emod_self_left]; exact ha
theorem step_p {p B z : Int} (hp : p ∈ primesL) (hB : B % p ≠ 0) (j : Nat) (hj : 1 ≤ j) (h2 : p = 2 → 2 ≤ j) : ∃ g, Gm (B + p ^ j * z) B p.toNat = p * g ∧ g % p ≠ 0 := by
  have hpb := primesL_le p hp
  by_cases h : p = 2
  · subst h
    obtain ⟨i, rfl⟩ : ∃ i, j = i + 2 := ⟨j - 2, by have := h2 rfl; omega⟩
    refine ⟨B + 2 * (2 ^ i * z), ?_, ne_add hB⟩
    have e : (2 : Int) ^ (i + 2) = 4 * 2 ^ i := by rw [Int.pow_succ, Int.pow_succ]; grind
    rw [e]
    show (B + 4 * 2 ^ i * z) ^ 1 + B * ((B + 4 * 2 ^ i * z) ^ 0 + B * 0) = _
    rw [Int.pow_zero, Int.pow_succ, Int.pow_zero]
    grind
  · obtain ⟨n, hn⟩ : ∃ n, p.toNat = n + 2 := ⟨p.toNat - 2, by omega⟩
    obtain ⟨i, rfl⟩ : ∃ i, j = i + 1 := ⟨j - 1, by omega⟩
    obtain ⟨d, hd⟩ : ∃ d, d = p ^ i * z := ⟨_, rfl⟩
    have eD : p ^ (i + 1) * z = p * d := by rw [hd, Int.pow_succ]; grind
    obtain ⟨w, hw⟩ := Gm_mod2 B (p * d) n
    have ep : (n : Int) + 2 = p := by omega
    rw [ep] at hw
    have e1 : 2 * Gm (B + p * d) B (n + 2) = p * (2 * B ^ (n + 1) + p * ((n + 1) * d * B ^ n + 2 * d * d * w)) := by rw [hw]; grind
    have c2 : (2 : Int) % p ≠ 0 := by rw [Int.emod_eq_of_lt (by omega) (by omega)]; omega
    have dv : p ∣ Gm (B + p * d) B (n + 2) := dvd_cop (x := 2) ⟨_, e1⟩ (by
      have := prime_gcd hp c2 1
      rw [Int.pow_one, Int.gcd_comm] at this
      exact this)
    obtain ⟨g, hg⟩ := dv
    refine ⟨g, by rw [eD, hn]; exact hg, fun k => ?_⟩
    have e2 : 2 * g = 2 * B ^ (n + 1) + p * ((n + 1) * d * B ^ n + 2 * d * d * w) := by
      have : p * (2 * g) = p * (2 * B ^ (n + 1) + p * ((n + 1) * d * B ^ n + 2 * d * d * w)) := by rw [← e1, hg]; grind
      exact Int.eq_of_mul_eq_mul_left (by omega) this
    have e3 := ne_add (p := p) (b := (n + 1) * d * B ^ n + 2 * d * d * w) (prime_mulI hp c2 (pow_ne hp hB (n + 1)))
    rw [← e2, Int.mul_emod, k, Int.mul_zero, Int.zero_emod] at e3
    exact e3 rfl
theorem lte_t {p B : Int} (hp : p ∈ primesL) (hB : B % p ≠ 0) (j : Nat) (y : Int) (hj : 1 ≤ j) (h2 : p = 2 → 2 ≤ j) : ∀ t : Nat, ∃ y', (B + p ^ j * y) ^ (p.toNat ^ t) = B ^ (p.toNat ^ t) + p ^ (j + t) * y' ∧ (y % p ≠ 0 → y' % p ≠ 0)
  | 0 => ⟨y, by simp [Int.pow_succ], fun h => h⟩
  | t + 1 => by
    obtain ⟨y', e, h⟩ := lte_t hp hB j y hj h2 t
    have hB1 := pow_ne hp hB (p.toNat ^ t)
    obtain ⟨g, g1, g2⟩ := step_p (z := y') hp hB1 (j + t) (by omega) (fun k => by have := h2 k; omega)
    have q := Gm_eq (B ^ (p.toNat ^ t) + p ^ (j + t) * y') (B ^ (p.toNat ^ t)) p.toNat
    refine ⟨y' * g, ?_, fun k => prime_mulI hp (h k) g2⟩
    rw [Nat.pow_succ, Int.pow_mul, Int.pow_mul, e, q, g1, show j + (t + 1) = j + t + 1 by omega, Int.pow_succ]
    grind
end PM
namespace PM
open PySem PySem.Spec L2 PL
open PyProof.Rows hiding St
theorem Mo.pow {m x y : Int} (h : Mo m x y) : ∀ n : Nat, Mo m (x ^ n) (y ^ n)
  | 0 => by rw [Int.pow_zero, Int.pow_zero]; exact Mo.refl _ _
  | n + 1 => by rw [Int.pow_succ, Int.pow_succ]; exact (Mo.pow h n).mul h
theorem Mo.uniq {w x y : Int} (h : Mo w x y) (h0 : 0 ≤ x) (h1 : x < w) : x = y % w := by rw [← h.eq, Int.emod_eq_of_lt h0 h1]
end PM
set_option Elab.async false
set_option linter.all false
set_option maxRecDepth 100000
set_option autoImplicit false
set_option exponentiation.threshold 20000
namespace PM
open PySem PySem.Spec L2 PL
open PyProof.Rows hiding St
end PM
set_option Elab.async false
set_option linter.all false
set_option maxRecDepth 100000
set_option autoImplicit false
set_option exponentiation.threshold 20000
namespace PM
open PySem PySem.Spec L2 PL
open PyProof.Rows hiding St
theorem stpN {c k : Rho → Out} {ρ ρ' : Rho} {r : R PV} (h : c ρ = .next ρ') (g : (k ρ').res = r) : (bSeq c k ρ).res = r := by
  rw [bSeq_eq, h, then_next]; exact g
end PM
set_option Elab.async false
set_option linter.all false
set_option maxRecDepth 100000
set_option autoImplicit false
set_option exponentiation.threshold 20000
namespace PM
open PySem PySem.Spec L2 PL
open PyProof.Rows hiding St
end PM
set_option Elab.async false
set_option linter.all false
set_option maxRecDepth 100000
set_option autoImplicit false
set_option exponentiation.threshold 20000
namespace PM
open PySem PySem.Spec L2 PL
open PyProof.Rows hiding St
theorem neLeft (p e : Int) (ds : List Int) : neP (leftV p e ds) (leftV p e ds) = .ok (.bl false) := by
  rw [neP_ok (by simp [leftV]) (by simp [leftV])]
  simp [leftV, eqVs_ints]
def figI (e : Int) (ds : List Int) (q : Int) : Int := if q < e then 0 else ds.getD (q - e).toNat 0
/-- the least place below L at which both are unlike, if there is one -/
def PartedI (L e f : Int) (ds es : List Int) (r : PV) : Prop :=
  (r = .non ∧ ∀ q, q < L → figI e ds q = figI f es q) ∨
  (∃ q, q < L ∧ r = .int q ∧ figI e ds q ≠ figI f es q ∧ ∀ q', q' < q → figI e ds q' = figI f es q')
theorem PartedI.uniq {L e f : Int} {ds es : List Int} {r s : PV} (h : PartedI L e f ds es r) (g : PartedI L e f ds es s) : r = s := by
  rcases h with ⟨rfl, h⟩ | ⟨q, h1, rfl, h2, h3⟩ <;> rcases g with ⟨rfl, g⟩ | ⟨q', g1, rfl, g2, g3⟩
  · rfl
  · exact absurd (h _ g1) g2
  · exact absurd (g _ h1) h2
  · have a : ¬ q < q' := fun z => h2 (g3 _ z)
    have b : ¬ q' < q := fun z => g2 (h3 _ z)
    rw [show q = q' by omega]
end PM
set_option Elab.async false
set_option linter.all false
set_option maxRecDepth 100000
set_option autoImplicit false
set_option exponentiation.threshold 20000
namespace PM
open PySem PySem.Spec L2 PL
open PyProof.Rows hiding St
@[simp] theorem sMut0_eq {i : Nat} {g : List PV → R (List PV)} {ρ : Rho} : sMut0 i g ρ = onOwn (getOwn ρ i) fun ps => R.own (g ps) ρ i := by
  unfold sMut0 getOwn
  cases ρ[i]? with
  | none => rfl
  | some t => cases t <;> rfl
@[simp] theorem clearP_eq {ps : List PV} : clearP ps = .ok [] := nr rfl
def onSome {α : Type} (o : Option α) (k : α → Out) : Out := match o with
  | some a => k a
  | none => .stuck
@[simp] theorem onSome_some {α : Type} {a : α} {k : α → Out} : onSome (some a) k = k a := nr rfl
@[simp] theorem sAugI_eq {i : Nat} {fi f : Rho → R PV} {ρ : Rho} : sAugI i fi f ρ = onOwn (getOwn ρ i) fun ps => (fi ρ).st ρ fun q => onSome (getN ps q) fun x => (f ρ).st ρ fun y => R.own (augN ps q x y) ρ i := by
  unfold sAugI getOwn
  cases ρ[i]? with
  | none => rfl
  | some t => cases t with
    | own ps =>
      dsimp only [onOwn, sE]
      cases fi ρ with
      | stuck => rfl
      | exc c => rfl
      | ok q =>
        dsimp only [R.st]
        cases getN ps q with
        | none => rfl
        | some x =>
          dsimp only [onSome, sE]
          cases f ρ <;> rfl
    | _ => rfl
end PM
set_option Elab.async false
set_option linter.all false
set_option maxRecDepth 100000
set_option autoImplicit false
set_option exponentiation.threshold 20000
namespace PM
open PySem PySem.Spec L2 PL
open PyProof.Rows hiding St
mutual
theorem eqV_self : ∀ (n : Nat) (p : PV), okD n p = true → eqV' p p = true
  | _, .non, _ => rfl
  | _, .bl b, _ => by simp [eqV']
  | _, .int i, _ => by simp [eqV']
  | _, .str s, _ => by simp [eqV']
  | 0, .tup l, h => by simp [okD] at h
  | n + 1, .tup l, h => by rw [eqV']; exact eqVs_self n l (by simpa [okD] using h)
  | 0, .lst l, h => by simp [okD] at h
  | n + 1, .lst l, h => by rw [eqV']; exact eqVs_self n l (by simpa [okD] using h)
  | 0, .frz l, h => by simp [okD] at h
  | n + 1, .frz l, h => by rw [eqV']; exact eqVs_self n l (by simpa [okD] using h)
  | n, .dct, h => by cases n <;> simp [okD] at h
theorem eqVs_self : ∀ (n : Nat) (l : List PV), (∀ x ∈ l, okD n x = true) → eqVs l l = true
  | _, [], _ => by rw [eqVs]
  | n, p :: l, h => by rw [eqVs, eqV_self n p (h p List.mem_cons_self), eqVs_self n l fun x hx => h x (List.mem_cons_of_mem _ hx)]; rfl
end
theorem neP_self {p : PV} (h : okD 30 p = true) : neP p p = .ok (.bl false) := by rw [neP_ok h h, eqV_self 30 p h]; rfl
end PM
set_option Elab.async false
set_option linter.all false
set_option maxRecDepth 100000
set_option autoImplicit false
set_option exponentiation.threshold 20000
namespace PM
open PySem PySem.Spec L2 PL
open PyProof.Rows hiding St
theorem sqN {c k : Rho → Out} {ρ ρ' : Rho} {o : Out} (h : c ρ = .next ρ') (g : k ρ' = o) : bSeq c k ρ = o := by rw [bSeq_eq, h, then_next]; exact g
theorem sqS {i : Nat} {f : Rho → R PV} {k : Rho → Out} {ρ : Rho} (p : PV) {o : Out} (h : f ρ = .ok p) (g : k (ρ.set i (.val p)) = o) : bSeq (sSet i f) k ρ = o := sqN (by rw [sSet_eq, h, st_ok]) g
end PM
set_option Elab.async false
set_option linter.all false
set_option maxRecDepth 100000
set_option autoImplicit false
set_option exponentiation.threshold 20000
namespace PM
open PySem PySem.Spec L2 PL
open PyProof.Rows hiding St
def prV (x y : Int) : PV := .tup [.int x, .int y]
theorem prV0 (x y : Int) : ixP (prV x y) (.int 0) = .ok (.int x) := by simp [prV]
theorem prV1 (x y : Int) : ixP (prV x y) (.int 1) = .ok (.int y) := by simp [prV]
theorem prV_tup (x y : Int) : tupP [.int x, .int y] = .ok (prV x y) := tupP_ok (by simp)
theorem trn_run (n : Slot) (a w : Int) (hw : 0 < w) (hz : w < 2 ^ 8000) : ∀ (y x : Nat) (u v : Int) (s4 : Slot), Nat.gcd x y = 1 → Mo w x (u * a) → Mo w y (v * a) → (x : Int) ≤ w → (y : Int) ≤ w → (u.natAbs : Int) * y + (v.natAbs : Int) * x ≤ w → 0 < x →
    ∃ z v' s4', sWh (tB1 (e2 gtP (e2 ixP (eVo 3) (eC (.int 0))) (eC (.int 0)))) (bSeq (sSet 4 (e2 fdivP (e2 ixP (eVo 2) (eC (.int 0))) (e2 ixP (eVo 3) (eC (.int 0))))) (bSeq (sPar 2 3 (aCons (eV 3) (aCons (eD tupP (aCons (e2 subP (e2 ixP (eVo 2) (eC (.int 0))) (e2 mulP (eVo 4) (e2 ixP (eVo 3) (eC (.int 0))))) (aCons (e2 subP (e2 ixP (eVo 2) (eC (.int 1))) (e2 mulP (eVo 4) (e2 ixP (eVo 3) (eC (.int 1))))) aNil))) aNil))) bNil))
      [n, .val (.int w), .val (prV x u), .val (prV y v), s4] = .next [n, .val (.int w), .val (prV 1 z), .val (prV 0 v'), s4'] ∧ Mo w (z * a) 1 := by
  intro y
  induction y using Nat.strongRecOn with
  | _ y ih =>
    intro x u v s4 hg hu hv hx hy hb h0
    rw [sWh_eq]
    by_cases h : y = 0
    · subst h
      rw [Nat.gcd_zero_right] at hg
      subst hg
      refine ⟨u, v, s4, ?_, hu.symm⟩
      have t : decide (((0 : Nat) : Int) > 0) = false := rfl
      simp only [tB1_eq, e2_eq, eC_eq, eVos, eVo0, bind1, prV0, gtP_ii, t, asB_eq]
      rfl
    · have hy0 : (0 : Int) < y := by omega
      have g : Nat.gcd y (x % y) = 1 := by rw [Nat.gcd_comm, ← Nat.gcd_rec y x, Nat.gcd_comm]; exact hg
      have e1 : ((x % y : Nat) : Int) = (x : Int) % y := by omega
      have ex : (x : Int) = (x : Int) / y * y + (x : Int) % y := by have := Int.mul_ediv_add_emod (x : Int) y; rw [Int.mul_comm] at this; omega
      have q0 : 0 ≤ (x : Int) / y := Int.ediv_nonneg (by omega) (by omega)
      have r0 : (x : Int) % y < y := Int.emod_lt_of_pos _ hy0
      have ql : (x : Int) / y ≤ x := Int.ediv_le_self _ (by omega)
      have b := bez_step (s := (x : Int) / y) (by omega) q0 ex hb
      have vl : (v.natAbs : Int) ≤ w := by
        have hh : 0 ≤ (u.natAbs : Int) * (y : Int) := Int.mul_nonneg (by omega) (by omega)
        exact le_of_mul_le (x := (x : Int)) (by omega) (by omega) (by omega)
      have mu : Mo w ((x : Int) % y) ((u - (x : Int) / y * v) * a) := by
        have s := hu.sub ((Mo.refl w ((x : Int) / y)).mul hv)
        have e3 : (x : Int) - (x : Int) / y * y = (x : Int) % y := by omega
        rw [e3] at s
        exact s.trans (.of_eq (by grind))
      obtain ⟨z, v', s4', i, m⟩ := ih (x % y) (Nat.mod_lt x (by omega)) y v (u - (x : Int) / y * v) (.val (.int ((x : Int) / y))) g hv (by rw [e1]; exact mu) hy (by rw [e1]; omega) (by rw [e1]; exact b) (by omega)
      refine ⟨z, v', s4', ?_, m⟩
      have fd := fdivP_pos (a := (x : Int)) (b := (y : Int)) hy0 (by omega)
      have m1 : mulP (.int ((x : Int) / y)) (.int y) = .ok (.int ((x : Int) / y * y)) := mulP_ii (okMul_of (m := 8000) (n := 8000) (by omega) (by omega) (by omega) (by omega) (by omega))
      have m2 : mulP (.int ((x : Int) / y)) (.int v) = .ok (.int ((x : Int) / y * v)) := mulP_ii (okMul_of (m := 8000) (n := 8000) (by omega) (by omega) (by omega) (by omega) (by omega))
      rw [e1] at i
      have t : decide ((y : Int) > 0) = true := decide_eq_true hy0
      have e3 : (x : Int) - (x : Int) / y * y = (x : Int) % y := by omega
      simp only [tB1_eq, e2_eq, eC_eq, eVos, eVo0, bind1, prV0, gtP_ii, t, asB_eq]
      rw [← i]
      simp only [bSeq_eq, sSet_eq, sPar_eq, e2_eq, eD_eq, aCons_eq, aNil_eq, eC_eq, eV0, eVs, eVos, eVo0, bind1, prV0, prV1, fd, st_ok, List.set_cons_succ, List.set_cons_zero, then_next, m1, m2, subP_ii, e3, prV_tup, stL_ok, bNil_eq]
theorem f_trn (a w : Int) (hw : 0 < w) (hz : w < 2 ^ 8000) (hg : Int.gcd a w = 1) : ∃ z, F_turned [.int a, .int w] = .ok (.int z) ∧ 0 ≤ z ∧ z < w ∧ Mo w (z * a) 1 := by
  obtain ⟨y, hy⟩ : ∃ y : Nat, a % w = y := ⟨(a % w).toNat, by have := Int.emod_nonneg a (show w ≠ 0 by omega); omega⟩
  obtain ⟨x, hx⟩ : ∃ x : Nat, w = x := ⟨w.toNat, by omega⟩
  have hlt := Int.emod_lt_of_pos a hw
  have g : Nat.gcd x y = 1 := by
    have h1 : Int.gcd (a % w) w = Int.gcd a w := gcd_mod _ _
    rw [hy, hg, hx, Int.gcd_comm] at h1
    exact h1
  obtain ⟨z, v', s4, r, m⟩ := trn_run (.val (.int a)) a w hw hz y x 0 1 .un g (by rw [← hx]; exact ⟨1, by grind⟩) (by rw [← hy, Int.one_mul]; exact Mo.emod _ _) (by omega) (by omega) (by simp; omega) (by omega)
  refine ⟨z % w, ?_, Int.emod_nonneg _ (by omega), Int.emod_lt_of_pos _ hw, ((Mo.emod w z).mul (Mo.refl w a)).trans m⟩
  refine (runF_eq (n := 5) (u := D_turned)).trans ?_
  show (D_turned [.val (.int a), .val (.int w), .un, .un, .un]).res = _
  rw [← hx, ← hy] at r
  have m1 := modP_pos (a := a) hw
  have m2 := modP_pos (a := z) hw
  unfold D_turned
  refine stp (prV w 0) (by simp only [eD_eq, aCons_eq, aNil_eq, eC_eq, eV0, eVs, bind1, prV_tup]) ?_
  refine stp (prV (a % w) 1) (by simp only [List.set_cons_succ, List.set_cons_zero, e2_eq, eD_eq, aCons_eq, aNil_eq, eC_eq, eV0, eVs, eVo0, eVos, bind1, m1, prV_tup]) ?_
  refine stpN r ?_
  simp only [bSeq_eq, sRet_eq, e2_eq, eC_eq, eVo0, eVos, bind1, prV1, m2, st_ok, then_ret, res_ret]
noncomputable def vn (p : Int) (n : Nat) : Nat := (vp p n).toNat
theorem vn_spec {p : Int} (hp : 2 ≤ p) {n : Nat} (hn : 1 ≤ n) : ∃ m : Int, (n : Int) = m * p ^ vn p n ∧ m % p ≠ 0 ∧ 1 ≤ m ∧ vp p n = vn p n := by
  obtain ⟨m, v, h1, h2, h3⟩ := vp_spec hp (show (n : Int) ≠ 0 by omega)
  have e : vn p n = v := by unfold vn; rw [h3]; rfl
  have P : 0 < p ^ v := Int.pow_pos (by omega)
  refine ⟨m, by rw [e]; exact h1, h2, ?_, by rw [e]; exact h3⟩
  rcases Int.lt_or_le m 1 with g | g
  · have := Int.mul_le_mul_of_nonneg_right (show m ≤ 0 by omega) (show 0 ≤ p ^ v by omega)
    rw [Int.zero_mul] at this
    omega
  · exact g
theorem vn_uniq {p m : Int} {n v : Nat} (hp : 2 ≤ p) (hn : 1 ≤ n) (h : (n : Int) = m * p ^ v) (hm : m % p ≠ 0) : vn p n = v := by
  obtain ⟨m', h1, h2, _, _⟩ := vn_spec hp hn
  exact (vp_uniq hp (h.symm.trans h1) hm h2).symm
theorem vn_zero {p : Int} {n : Nat} (hp : 2 ≤ p) (hn : 1 ≤ n) (h : (n : Int) % p ≠ 0) : vn p n = 0 := vn_uniq (m := n) hp hn (by simp) h
/-- the figures' sum by a prime: what the factorials lack -/
def dsum (p : Nat) : Nat → Nat → Nat
  | 0, _ => 0
  | f + 1, n => n % p + dsum p f (n / p)
noncomputable def wf (p : Int) : Nat → Nat
  | 0 => 0
  | n + 1 => wf p n + vn p (n + 1)
theorem dsum_0 (p : Nat) : ∀ f : Nat, dsum p f 0 = 0
  | 0 => rfl
  | f + 1 => by rw [dsum, Nat.zero_mod, Nat.zero_div, Nat.zero_add, dsum_0 p f]
theorem dsum_fuel {p : Nat} (hp : 2 ≤ p) : ∀ (f g n : Nat), n ≤ f → n ≤ g → dsum p f n = dsum p g n
  | 0, g, n, h, _ => by
    have e : n = 0 := by omega
    subst e
    rw [dsum_0, dsum_0]
  | f + 1, 0, n, _, h => by
    have e : n = 0 := by omega
    subst e
    rw [dsum_0, dsum_0]
  | f + 1, g + 1, n, h1, h2 => by
    rw [dsum, dsum]
    have : n / p ≤ n / 2 := Nat.div_le_div_left hp (by omega)
    rw [dsum_fuel hp f g (n / p) (by omega) (by omega)]
theorem vn_dsum {p : Nat} (hp : 2 ≤ p) : ∀ (f n : Nat), n + 1 ≤ f → (p - 1) * vn p (n + 1) + dsum p f (n + 1) = 1 + dsum p f n
  | 0, _, h => by omega
  | f + 1, n, h => by
    by_cases c : (n + 1) % p = 0
    · obtain ⟨j, hj⟩ : ∃ j, n + 1 = p * j := ⟨(n + 1) / p, by have := Nat.div_add_mod (n + 1) p; omega⟩
      have j0 : j ≠ 0 := fun z => by rw [z] at hj; omega
      obtain ⟨i, rfl⟩ : ∃ i, j = i + 1 := ⟨j - 1, by omega⟩
      have hn : n = p * i + (p - 1) := by rw [Nat.mul_add] at hj; omega
      have d1 : (n + 1) / p = i + 1 := by rw [hj]; exact Nat.mul_div_cancel_left _ (by omega)
      have d2 : n / p = i := by rw [hn, Nat.mul_add_div (by omega), Nat.div_eq_of_lt (by omega)]; omega
      have m2 : n % p = p - 1 := by rw [hn, Nat.mul_add_mod, Nat.mod_eq_of_lt (by omega)]
      have il : i + 1 ≤ f := by
        have : 2 * (i + 1) ≤ p * (i + 1) := Nat.mul_le_mul_right _ hp
        omega
      have ih := vn_dsum hp f i il
      obtain ⟨m, h1, h2, _, _⟩ := vn_spec (p := (p : Int)) (by omega) (show 1 ≤ i + 1 by omega)
      have e : vn p (n + 1) = vn p (i + 1) + 1 := vn_uniq (m := m) (by omega) (by omega) (by rw [hj, Int.natCast_mul, h1, Int.pow_succ]; grind) h2
      rw [dsum, dsum, c, d1, d2, m2, e, Nat.mul_add]
      omega
    · have hv : vn p (n + 1) = 0 := vn_zero (by omega) (by omega) (by omega)
      have hp0 : 0 < p := by omega
      have dm := Nat.div_add_mod n p
      have lt := Nat.mod_lt n hp0
      have e1 : n % p + 1 < p := by
        rcases Nat.lt_or_ge (n % p + 1) p with g | g
        · exact g
        · exfalso
          have : n + 1 = p * (n / p + 1) := by rw [Nat.mul_add]; omega
          rw [this] at c
          exact c (Nat.mul_mod_right _ _)
      have e2 : n + 1 = p * (n / p) + (n % p + 1) := by omega
      have d1 : (n + 1) / p = n / p := by
        conv => lhs; rw [e2]
        rw [Nat.mul_add_div hp0, Nat.div_eq_of_lt e1]; omega
      have d2 : (n + 1) % p = n % p + 1 := by
        conv => lhs; rw [e2]
        rw [Nat.mul_add_mod, Nat.mod_eq_of_lt e1]
      rw [dsum, dsum, hv, d1, d2]
      omega
theorem wf_dsum {p : Nat} (hp : 2 ≤ p) (f : Nat) : ∀ n : Nat, n ≤ f → (p - 1) * wf p n + dsum p f n = n
  | 0, _ => by
    have := dsum_fuel hp f 0 0 (by omega) (by omega)
    rw [wf, Nat.mul_zero, this]; rfl
  | n + 1, h => by
    have ih := wf_dsum hp f n (by omega)
    have s := vn_dsum hp f n h
    rw [wf, Nat.mul_add]
    omega
theorem dsum_pos {p : Nat} (hp : 2 ≤ p) : ∀ (f n : Nat), n ≤ f → 1 ≤ n → 1 ≤ dsum p f n
  | 0, n, h, h2 => by omega
  | f + 1, n, h, h2 => by
    rw [dsum]
    by_cases c : n % p = 0
    · have : n / p ≤ n / 2 := Nat.div_le_div_left hp (by omega)
      have d := Nat.div_add_mod n p
      have : 1 ≤ n / p := by
        rcases Nat.eq_zero_or_pos (n / p) with g | g
        · rw [g] at d; omega
        · exact g
      have := dsum_pos hp f (n / p) (by omega) this
      omega
    · omega
theorem wf_lt {p : Int} (hp : 2 ≤ p) (n : Nat) (hn : 1 ≤ n) : (p - 1) * (wf p n : Int) ≤ n - 1 := by
  obtain ⟨q, rfl⟩ : ∃ q : Nat, p = q := ⟨p.toNat, by omega⟩
  have h1 := wf_dsum (p := q) (by omega) n n (Nat.le_refl _)
  have h2 := dsum_pos (p := q) (by omega) n n (Nat.le_refl _) hn
  have e : ((q - 1 : Nat) : Int) = (q : Int) - 1 := by omega
  have h3 : ((q - 1 : Nat) : Int) * (wf q n : Int) = (((q - 1) * wf q n : Nat) : Int) := by rw [Int.natCast_mul]
  rw [← e, h3]
  omega
theorem wf_le {p : Int} (hp : 2 ≤ p) (n : Nat) (hn : 1 ≤ n) : wf p n + 1 ≤ n := by
  have h := wf_lt hp n hn
  have : 1 * (wf p n : Int) ≤ (p - 1) * (wf p n : Int) := Int.mul_le_mul_of_nonneg_right (by omega) (by omega)
  omega
theorem vn_le_wf (p : Int) (n : Nat) (hn : 1 ≤ n) : vn p n ≤ wf p n := by
  obtain ⟨m, rfl⟩ : ∃ m, n = m + 1 := ⟨n - 1, by omega⟩
  rw [wf]; omega
theorem vn_le {p : Int} (hp : 2 ≤ p) (n : Nat) (hn : 1 ≤ n) : vn p n + 1 ≤ n := by
  have := wf_le hp n hn
  have := vn_le_wf p n hn
  omega
theorem vn_sm {p : Int} (hp : 2 ≤ p) {n k : Nat} (hn : 1 ≤ n) (h : n < 2 ^ k) : vn p n < k := by
  obtain ⟨m, h1, _, h3, _⟩ := vn_spec hp hn
  have hw : (2 : Int) ^ vn p n ≤ p ^ vn p n := by
    have q : ((p.toNat : Nat) : Int) = p := by omega
    have := Nat.pow_le_pow_left (show 2 ≤ p.toNat by omega) (vn p n)
    have e1 : ((2 ^ vn p n : Nat) : Int) = (2 : Int) ^ vn p n := by rw [Int.natCast_pow]; rfl
    have e2 : ((p.toNat ^ vn p n : Nat) : Int) = p ^ vn p n := by rw [Int.natCast_pow, q]
    omega
  have h4 : 1 * p ^ vn p n ≤ m * p ^ vn p n := Int.mul_le_mul_of_nonneg_right h3 (Int.le_of_lt (Int.pow_pos (by omega)))
  have h5 : (2 : Int) ^ vn p n < 2 ^ k := by
    have : ((n : Nat) : Int) < ((2 ^ k : Nat) : Int) := by omega
    rw [Int.natCast_pow] at this
    have e : ((2 : Nat) : Int) = 2 := rfl
    rw [e] at this
    omega
  have h6 : (2 : Nat) ^ vn p n < 2 ^ k := by
    have e1 : ((2 ^ vn p n : Nat) : Int) = (2 : Int) ^ vn p n := by rw [Int.natCast_pow]; rfl
    have e2 : ((2 ^ k : Nat) : Int) = (2 : Int) ^ k := by rw [Int.natCast_pow]; rfl
    omega
  exact (Nat.pow_lt_pow_iff_right (by omega : 1 < 2)).mp h6
end PM
set_option Elab.async false
set_option linter.all false
set_option maxRecDepth 100000
set_option autoImplicit false
set_option exponentiation.threshold 20000
namespace PM
open PySem PySem.Spec L2 PL
open PyProof.Rows hiding St
theorem mo_iff {m x y : Int} : Mo m x y ↔ m ∣ x - y := by
  constructor
  · rintro ⟨z, h⟩; exact ⟨z, by omega⟩
  · rintro ⟨z, h⟩; exact ⟨z, by omega⟩
theorem Mo.canc {p m a b : Int} (hp : p ∈ primesL) (hm : m % p ≠ 0) {E v : Nat} (h : Mo (p ^ (E + v)) (m * p ^ v * a) (m * p ^ v * b)) : Mo (p ^ E) a b := by
  have hpb := primesL_le p hp
  have P : p ^ v ≠ 0 := Int.pow_ne_zero (by omega)
  rw [mo_iff] at h ⊢
  obtain ⟨z, hz⟩ := h
  have e : m * (a - b) = p ^ E * z := by
    rw [Int.pow_add] at hz
    refine Int.eq_of_mul_eq_mul_left P ?_
    grind
  have g : Int.gcd (p ^ E) m = 1 := by rw [Int.gcd_comm]; exact prime_gcd hp hm E
  have d : (p ^ E).natAbs ∣ m.natAbs * (a - b).natAbs := by rw [← Int.natAbs_mul]; exact Int.natAbs_dvd_natAbs.mpr ⟨z, e⟩
  exact Int.natAbs_dvd_natAbs.mp (Nat.Coprime.dvd_of_dvd_mul_left g d)
theorem Mo.cancP {p a b : Int} (hp : 2 ≤ p) {E v : Nat} (h : Mo (p ^ (E + v)) (p ^ v * a) (p ^ v * b)) : Mo (p ^ E) a b := by
  have P : p ^ v ≠ 0 := Int.pow_ne_zero (by omega)
  obtain ⟨z, hz⟩ := h
  refine ⟨z, Int.eq_of_mul_eq_mul_left P ?_⟩
  rw [hz, Int.pow_add]
  grind
theorem pow_mo0 {p x : Int} {s : Nat} (h : Mo (p ^ s) x 0) (k : Nat) : Mo (p ^ (s * k)) (x ^ k) 0 := by
  obtain ⟨z, hz⟩ := h
  refine ⟨z ^ k, ?_⟩
  rw [hz, Int.zero_add, Int.mul_pow, Int.pow_mul, Int.zero_add]
def fac : Nat → Int
  | 0 => 1
  | n + 1 => fac n * ((n + 1 : Nat) : Int)
noncomputable def mfc (p : Int) : Nat → Int
  | 0 => 1
  | n + 1 => mfc p n * (((n + 1 : Nat) : Int) / p ^ vn p (n + 1))
theorem vn_div {p : Int} (hp : 2 ≤ p) {n : Nat} (hn : 1 ≤ n) : (n : Int) = (n : Int) / p ^ vn p n * p ^ vn p n ∧ ((n : Int) / p ^ vn p n) % p ≠ 0 ∧ 1 ≤ (n : Int) / p ^ vn p n ∧ (n : Int) / p ^ vn p n ≤ n := by
  obtain ⟨m, h1, h2, h3, _⟩ := vn_spec hp hn
  have P : 0 < p ^ vn p n := Int.pow_pos (by omega)
  have e : (n : Int) / p ^ vn p n = m := by
    conv => lhs; rw [h1]
    exact Int.mul_ediv_cancel _ (by omega)
  rw [e]
  refine ⟨h1, h2, h3, ?_⟩
  have := Int.mul_le_mul_of_nonneg_left (show 1 ≤ p ^ vn p n by omega) (show 0 ≤ m by omega)
  omega
theorem mfc_spec {p : Int} (hp : p ∈ primesL) : ∀ n : Nat, fac n = mfc p n * p ^ wf p n ∧ mfc p n % p ≠ 0
  | 0 => by
    have hpb := primesL_le p hp
    refine ⟨by simp [fac, mfc, wf], ?_⟩
    rw [mfc, Int.emod_eq_of_lt (by omega) (by omega)]; decide
  | n + 1 => by
    have hpb := primesL_le p hp
    obtain ⟨h1, h2⟩ := mfc_spec hp n
    obtain ⟨g1, g2, _⟩ := vn_div hpb.1 (show 1 ≤ n + 1 by omega)
    refine ⟨?_, prime_mulI hp h2 g2⟩
    rw [fac, h1, mfc, wf, Int.pow_add]
    conv => lhs; rw [g1]
    grind
def sgs (q : Nat → Int) : Nat → Int
  | 0 => 0
  | n + 1 => sgs q n + (if (n + 1) % 2 = 1 then q (n + 1) else -(q (n + 1)))
def sms (q : Nat → Int) : Nat → Int
  | 0 => q 0
  | n + 1 => sms q n + q (n + 1)
def LgQ (p : Int) (E : Nat) (x : Int) (q : Nat → Int) (N : Nat) : Prop := ∀ k : Nat, 1 ≤ k → k ≤ N → Mo (p ^ (E + vn p k)) (k * q k) (x ^ k)
def ExQ (p : Int) (E : Nat) (x : Int) (q : Nat → Int) (N : Nat) : Prop := ∀ k : Nat, k ≤ N → Mo (p ^ (E + wf p k)) (fac k * q k) (x ^ k)
noncomputable def trn (a w : Int) : Int := match F_turned [.int a, .int w] with | .ok (.int z) => z | _ => 0
theorem trn_ok {a w : Int} (hw : 0 < w) (hz : w < 2 ^ 8000) (hg : Int.gcd a w = 1) : F_turned [.int a, .int w] = .ok (.int (trn a w)) ∧ 0 ≤ trn a w ∧ trn a w < w ∧ Mo w (trn a w * a) 1 := by
  obtain ⟨z, h1, h2, h3, h4⟩ := f_trn a w hw hz hg
  have e : trn a w = z := by unfold trn; rw [h1]
  rw [e]; exact ⟨h1, h2, h3, h4⟩
noncomputable def lq (p : Int) (n : Nat) (x : Int) (k : Nat) : Int := x ^ k % p ^ (n + 12) / p ^ vn p k * trn ((k : Int) / p ^ vn p k) (p ^ n)
theorem lq_spec {p x : Int} (hp : p ∈ primesL) {n : Nat} (hn : n ≤ 400) (hx : Mo (p ^ 1) x 0) : LgQ p n x (lq p n x) (n + 12) := by
  intro k h1 h2
  have hpb := primesL_le p hp
  obtain ⟨g1, g2, _⟩ := vn_div hpb.1 h1
  have P0 : 0 < p ^ n := Int.pow_pos (by omega)
  have Pb : (p ^ n).natAbs < 2 ^ 8000 := sz_le (pow_sz hpb.1 hpb.2 _) (by omega)
  obtain ⟨_, _, _, t⟩ := trn_ok (a := (k : Int) / p ^ vn p k) P0 (by omega) (prime_gcd hp g2 n)
  have v1 := vn_le hpb.1 k h1
  have v12 : vn p k < 9 := vn_sm hpb.1 h1 (by omega)
  obtain ⟨v, hv⟩ : ∃ v, v = vn p k := ⟨_, rfl⟩
  obtain ⟨m, hm⟩ : ∃ m, m = (k : Int) / p ^ vn p k := ⟨_, rfl⟩
  unfold lq
  rw [← hm] at t
  rw [← hm, ← hv] at g1 ⊢
  rw [← hv] at v1 v12
  obtain ⟨A, hA⟩ : ∃ A, A = x ^ k % p ^ (n + 12) := ⟨_, rfl⟩
  have mA : Mo (p ^ (n + 12)) A (x ^ k) := by rw [hA]; exact Mo.emod _ _
  have z0 : Mo (p ^ v) (x ^ k) 0 := (pow_mo0 hx k).low (by omega)
  have zA : Mo (p ^ v) A 0 := (mA.low (by omega)).trans z0
  obtain ⟨B, hB⟩ := zA
  rw [Int.zero_add] at hB
  have d : A / p ^ v = B := by rw [hB]; exact Int.mul_ediv_cancel_left _ (Int.pow_ne_zero (by omega))
  rw [← hA, d]
  obtain ⟨w, hw⟩ := t
  have e : (k : Int) * (B * trn m (p ^ n)) = A + p ^ (n + v) * (w * B) := by
    rw [g1, hB, Int.pow_add]
    have : trn m (p ^ n) * m = 1 + p ^ n * w := hw
    grind
  exact (Mo.trans ⟨w * B, e⟩ (mA.low (by omega)))
theorem f_near (p e : Int) (ds : List Int) : F_is_near_one [leftV p e ds] = .ok (.bl (decide (e = 0 ∧ ds.head? = some 1 ∧ (p = 2 → ds[1]? = some 0)))) := by
  refine (runF_eq (n := 4) (u := D_is_near_one)).trans ?_
  show (D_is_near_one [.val (leftV p e ds), .un, .un, .un]).res = _
  have g : gT (gsCons (gN 1) (gsCons (gN 2) (gsCons (gN 3) gsNil))) (leftV p e ds) [.val (leftV p e ds), .un, .un, .un] = some [.val (leftV p e ds), .val (.int p), .val (.int e), .val (.tup (ds.map PV.int))] := rfl
  have t0 : tupP [] = .ok (.tup []) := tupP_ok (by simp)
  have ln : lenP [.tup (ds.map PV.int)] = .ok (.int ds.length) := by simp
  unfold D_is_near_one
  refine stpN (by rw [sTo_eq, eV0, st_ok, g]) ?_
  by_cases he : e = 0
  · cases ds with
    | nil =>
      have n1 : eqP (.tup []) (.tup []) = .ok (.bl true) := neTup (ds := [])
      simp [t0, he, n1]
    | cons d r =>
      have n1 : eqP (.tup ((d :: r).map PV.int)) (.tup []) = .ok (.bl false) := neTup (ds := d :: r)
      have i0 : ixP (.tup ((d :: r).map PV.int)) (.int 0) = .ok (.int d) := ixP_tup (by omega) rfl
      obtain ⟨X, hX⟩ : ∃ X, X = PV.tup ((d :: r).map PV.int) := ⟨_, rfl⟩
      by_cases hd : d = 1
      · rw [← hX] at n1 i0 ln ⊢
        by_cases h2 : p = 2
        · cases r with
          | nil =>
            have l1 : decide ((1 : Int) > 1) = false := rfl
            simp [t0, he, n1, i0, hd, h2, ln]
          | cons c r =>
            have i1 : ixP X (.int 1) = .ok (.int c) := by rw [hX]; exact ixP_tup (by omega) rfl
            have l1 : (1 : Int) < (r.length : Int) + 1 + 1 := by omega
            simp [t0, he, n1, i0, i1, hd, h2, ln, l1]
            rfl
        · simp [t0, he, n1, i0, hd, h2]
      · rw [← hX] at n1 i0 ln ⊢
        simp [t0, he, n1, i0, hd]
  · simp [he]
theorem near_yes {p : Int} {ds : List Int} (h : ds.head? = some 1) (h2 : p = 2 → ds[1]? = some 0) : F_is_near_one [leftV p 0 ds] = .ok (.bl true) := by
  rw [f_near, decide_eq_true ⟨rfl, h, h2⟩]
theorem f_log_of {p : Int} {ds : List Int} (hp : p ∈ primesL) (hd : Dg p ds) (hl : ds.length ≤ 400) (h : ds.head? = some 1) (h2 : p = 2 → ds[1]? = some 0) :
    F_log_of [leftV p 0 ds] = .ok (leftV p (lead (digs p (sgs (lq p ds.length (U p ds - 1)) (ds.length + 12)) ds.length)) (strip (digs p (sgs (lq p ds.length (U p ds - 1)) (ds.length + 12)) ds.length))) ∧ LgQ p ds.length (U p ds - 1) (lq p ds.length (U p ds - 1)) (ds.length + 12) := by
  have hpb := primesL_le p hp
  obtain ⟨n, hn⟩ : ∃ n, n = ds.length := ⟨_, rfl⟩
  obtain ⟨x, hx⟩ : ∃ x, x = U p ds - 1 := ⟨_, rfl⟩
  rw [← hn] at hl ⊢
  rw [← hx]
  have ub := U_nonneg hpb.1 hd
  rw [← hn] at ub
  have x0 : 0 ≤ x ∧ x < p ^ n ∧ Mo (p ^ 1) x 0 := by
    cases ds with
    | nil => exact nomatch h
    | cons d r =>
      cases h
      have U1 : U p (1 :: r) = U p r * p + 1 := rfl
      have ub2 := U_nonneg hpb.1 hd.tail
      have : 0 ≤ U p r * p := Int.mul_nonneg ub2.1 (by omega)
      refine ⟨by omega, by omega, ⟨U p r, ?_⟩⟩
      rw [hx, U1, Int.pow_succ, Int.pow_zero]; grind
  have P0 : 0 < p ^ n := Int.pow_pos (by omega)
  have Pb : (p ^ n).natAbs < 2 ^ 2900 := sz_le (pow_sz hpb.1 hpb.2 _) (by omega)
  have F0 : 0 < p ^ (n + 12) := Int.pow_pos (by omega)
  have Fb : (p ^ (n + 12)).natAbs < 2 ^ 2900 := sz_le (pow_sz hpb.1 hpb.2 _) (by omega)
  refine ⟨?_, lq_spec hp hl x0.2.2⟩
  obtain ⟨q0, q1, q2⟩ := ixT p 0 ds
  have K := f_known p 0 ds
  rw [← hn] at K
  have Un := f_unit p 0 ds hpb.1 hpb.2 hd (by omega)
  have pw := f_power_of p n (by omega) (by omega) (by omega)
  have pw12 := f_power_of p 12 (by omega) (by omega) (by omega)
  rw [Int.toNat_natCast] at pw
  have mf : mulP (.int (p ^ n)) (.int (p ^ (12 : Int).toNat)) = .ok (.int (p ^ (n + 12))) := by
    rw [mulP_ii (okMul_of Pb (n := 100) (sz_le (pow_sz hpb.1 hpb.2 _) (by decide)) (by omega) (by omega) (by omega)), Int.pow_add]; rfl
  have hr : rng2 [.int 1, .int ((n : Int) + 12 + 1)] = .ok (rngL 1 (n + 12)) := by rw [rng2_all, show ((n : Int) + 12 + 1 - 1).toNat = n + 12 by omega]
  have one1 : (1 : Int) % p ^ (n + 12) = 1 := Int.emod_eq_of_lt (by omega) (by
    have h1 := Int.mul_le_mul_of_nonneg_right (show 1 ≤ p ^ (n + 11) from Int.pow_pos (by omega)) (show 0 ≤ p by omega)
    have h3 : p ^ (n + 12) = p ^ (n + 11) * p := Int.pow_succ p (n + 11)
    rw [h3]
    omega)
  obtain ⟨V, hV⟩ : ∃ V, V = leftV p 0 ds := ⟨_, rfl⟩
  have nr := near_yes h h2
  rw [← hV] at q0 q1 q2 K Un nr ⊢
  obtain ⟨ρ', e1, s8, s9, s10, rfl⟩ := forL_rng (tgt := gN 8) (body := (bSeq (sSet 6 (e2 modP (e2 mulP (eVo 6) (eVo 4)) (eVo 5))) (bSeq (sSet 9 (eD F_power_of (aCons (eV 1) (aCons (eD F_exponent (aCons (eV 1) (aCons (eV 8) aNil))) aNil)))) (bSeq (sSet 10 (e2 mulP (e2 fdivP (eVo 6) (eVo 9)) (eD F_turned (aCons (e2 fdivP (eVo 8) (eVo 9)) (aCons (eV 3) aNil))))) (bSeq (sIf (tB1 (e2 eqP (e2 modP (eVo 8) (eC (.int 2))) (eC (.int 1)))) (bSeq (sAug 7 (intP (fun _ _ => true) fun a b => .int (a + b)) (eVo 10)) bNil) (bSeq (sAug 7 subP (eVo 10)) bNil)) bNil)))))
    (fun j ρ => ∃ s8 s9 s10 : Slot, ρ = [.val V, .val (.int p), .val (.int n), .val (.int (p ^ n)), .val (.int x), .val (.int (p ^ (n + 12))), .val (.int (x ^ j % p ^ (n + 12))), .val (.int (sgs (lq p n x) j)), s8, s9, s10]) 1 (n + 12) [.val V, .val (.int p), .val (.int n), .val (.int (p ^ n)), .val (.int x), .val (.int (p ^ (n + 12))), .val (.int 1), .val (.int 0), .un, .un, .un]
    ⟨.un, .un, .un, by rw [Int.pow_zero, one1]; rfl⟩ (fun j ρ hj ⟨s8, s9, s10, e⟩ => by
      subst e
      obtain ⟨k, hk⟩ : ∃ k, k = j + 1 := ⟨_, rfl⟩
      have ek : 1 + (j : Int) = k := by omega
      rw [ek]
      have k1 : 1 ≤ k := by omega
      obtain ⟨m, v1, v2, v3, v4⟩ := vn_spec hpb.1 k1
      obtain ⟨g1, g2, _⟩ := vn_div hpb.1 k1
      have ex := f_exp hpb.1 (show p < 2 ^ 8000 by omega) (show (k : Int) ≠ 0 by omega)
      rw [v4] at ex
      have v12 : vn p k < 9 := vn_sm hpb.1 k1 (by omega)
      have pv := f_power_of p (vn p k) (by omega) (by omega) (by omega)
      rw [Int.toNat_natCast] at pv
      have L0 : 0 < p ^ vn p k := Int.pow_pos (by omega)
      have Lb : (p ^ vn p k).natAbs < 2 ^ 100 := sz_le (pow_sz hpb.1 hpb.2 _) (by omega)
      obtain ⟨t1, t2, t3, t4⟩ := trn_ok (a := (k : Int) / p ^ vn p k) P0 (by omega) (prime_gcd hp g2 n)
      have A0 := Int.emod_nonneg (x ^ j) (show p ^ (n + 12) ≠ 0 by omega)
      have A1 := Int.emod_lt_of_pos (x ^ j) F0
      have mm : mulP (.int (x ^ j % p ^ (n + 12))) (.int x) = .ok (.int (x ^ j % p ^ (n + 12) * x)) := mulP_ii (okMul_of (m := 2900) (n := 2900) (by omega) (by omega) (by omega) (by omega) (by omega))
      have ma := modP_pos (a := x ^ j % p ^ (n + 12) * x) F0
      have mz : x ^ j % p ^ (n + 12) * x % p ^ (n + 12) = x ^ k % p ^ (n + 12) := ((Mo.emod (p ^ (n + 12)) (x ^ j)).mul (Mo.refl _ x)).eq.trans (by rw [hk, Int.pow_succ x j])
      rw [mz] at ma
      have B0 := Int.emod_nonneg (x ^ k) (show p ^ (n + 12) ≠ 0 by omega)
      have B1 := Int.emod_lt_of_pos (x ^ k) F0
      have f1 := fdivP_pos (a := x ^ k % p ^ (n + 12)) L0 (by omega)
      have f2 := fdivP_pos (a := (k : Int)) L0 (by omega)
      have C1 : 0 ≤ x ^ k % p ^ (n + 12) / p ^ vn p k := Int.ediv_nonneg B0 (by omega)
      have C2 : x ^ k % p ^ (n + 12) / p ^ vn p k ≤ x ^ k % p ^ (n + 12) := Int.ediv_le_self _ B0
      have mq : mulP (.int (x ^ k % p ^ (n + 12) / p ^ vn p k)) (.int (trn ((k : Int) / p ^ vn p k) (p ^ n))) = .ok (.int (lq p n x k)) := mulP_ii (okMul_of (m := 2900) (n := 2900) (by omega) (by omega) (by omega) (by omega) (by omega))
      have k2 := modP_pos (a := (k : Int)) (b := 2) (by omega)
      have sg : sgs (lq p n x) (j + 1) = sgs (lq p n x) j + (if (j + 1) % 2 = 1 then lq p n x (j + 1) else -(lq p n x (j + 1))) := rfl
      rw [← hk] at sg ⊢
      refine ⟨_, .inl ?_, .val (.int k), .val (.int (p ^ vn p k)), .val (.int (lq p n x k)), rfl⟩
      simp only [turnL, gN_eq, List.set_cons_succ, List.set_cons_zero]
      refine sqS (.int (x ^ k % p ^ (n + 12))) (by simp only [e2_eq, eVo0, eVos, bind1, mm, ma]) ?_
      refine sqS (.int (p ^ vn p k)) (by simp only [List.set_cons_succ, List.set_cons_zero, eD_eq, aCons_eq, aNil_eq, eV0, eVs, bind1, ex, pv]) ?_
      refine sqS (.int (lq p n x k)) (by simp only [List.set_cons_succ, List.set_cons_zero, e2_eq, eD_eq, aCons_eq, aNil_eq, eV0, eVs, eVo0, eVos, bind1, f1, f2, t1, mq]) ?_
      simp only [List.set_cons_succ, List.set_cons_zero]
      rw [sg]
      by_cases o : k % 2 = 1
      · have o' : ((k : Int) % 2 == 1) = true := by rw [beq_iff_eq]; omega
        rw [if_pos o]
        simp only [bSeq_eq, sIf_eq, tB1_eq, e2_eq, eC_eq, eVo0, eVos, bind1, k2, eqP_ii, o', asB_eq, stB_ok, if_true, sAug0, List.getElem?_cons_succ, List.getElem?_cons_zero, iadd_ii, st_ok, List.set_cons_succ, List.set_cons_zero, then_next, bNil_eq]
      · have o' : ((k : Int) % 2 == 1) = false := by rw [beq_eq_false_iff_ne]; omega
        rw [if_neg o]
        simp only [bSeq_eq, sIf_eq, tB1_eq, e2_eq, eC_eq, eVo0, eVos, bind1, k2, eqP_ii, o', asB_eq, stB_ok, if_neg Bool.false_ne_true, sAug0, List.getElem?_cons_succ, List.getElem?_cons_zero, subP_ii, st_ok, List.set_cons_succ, List.set_cons_zero, then_next, bNil_eq, Int.sub_eq_add_neg])
  have mT := modP_pos (a := sgs (lq p n x) (n + 12)) P0
  have W := f_of_whole p 0 (sgs (lq p n x) (n + 12) % p ^ n) n hp (by omega)
  rw [digs_mo hpb.1 n (Mo.emod (p ^ n) (sgs (lq p n x) (n + 12))), Int.zero_add] at W
  refine (runF_eq (n := 11) (u := D_log_of)).trans ?_
  show (D_log_of [.val V, .un, .un, .un, .un, .un, .un, .un, .un, .un, .un]).res = _
  unfold D_log_of
  refine skp (by simp only [tNt_eq, tB1_eq, eD_eq, aCons_eq, aNil_eq, eV0, bind1, nr, asB_eq, Bool.not_true]) ?_
  refine stp (.int p) (by simp only [e2_eq, eC_eq, eVo0, bind1, q0]) ?_
  refine stp (.int n) (by simp only [List.set_cons_succ, List.set_cons_zero, eD_eq, aCons_eq, aNil_eq, eV0, bind1, K]) ?_
  refine stp (.int (p ^ n)) (by simp only [List.set_cons_succ, List.set_cons_zero, eD_eq, aCons_eq, aNil_eq, eV0, eVs, bind1, pw]) ?_
  refine stp (.int x) (by simp only [List.set_cons_succ, List.set_cons_zero, e2_eq, eD_eq, aCons_eq, aNil_eq, eC_eq, eV0, eVs, bind1, Un, subP_ii, ← hx]) ?_
  refine stp (.int (p ^ (n + 12))) (by simp only [List.set_cons_succ, List.set_cons_zero, e2_eq, eD_eq, aCons_eq, aNil_eq, eC_eq, eV0, eVs, eVo0, eVos, bind1, pw12, mf]) ?_
  refine stp (.int 1) (by simp only [eC_eq]) ?_
  refine stp (.int 0) (by simp only [eC_eq]) ?_
  simp only [List.set_cons_succ, List.set_cons_zero]
  refine stpFor (rngL 1 (n + 12)) _ (by simp only [iR_eq, e2_eq, aCons_eq, aNil_eq, eC_eq, eVo0, eVos, bind1, addP_ii, hr]) e1 ?_
  simp only [bSeq_eq, sRet_eq, e2_eq, eD_eq, aCons_eq, aNil_eq, eC_eq, eV0, eVs, eVo0, eVos, bind1, mT, W, st_ok, then_ret, res_ret]
noncomputable def ep (p : Int) (n : Nat) (u : Int) : Nat → Int
  | 0 => 1
  | k + 1 => ep p n u k * u * trn (((k + 1 : Nat) : Int) / p ^ vn p (k + 1)) (p ^ n) % p ^ n
noncomputable def er (p : Int) (s k : Nat) : Nat := k * s - wf p k
noncomputable def ee (p : Int) (n : Nat) (u : Int) (s : Nat) (k : Nat) : Int := if k = 0 then 1 else if er p s k < n then ep p n u k * p ^ er p s k else 0
theorem ep_spec {p : Int} (hp : p ∈ primesL) {n : Nat} (hn : n ≤ 400) (u : Int) : ∀ k : Nat, Mo (p ^ n) (mfc p k * ep p n u k) (u ^ k)
  | 0 => .of_eq (by simp [mfc, ep])
  | k + 1 => by
    have hpb := primesL_le p hp
    have ih := ep_spec hp hn u k
    obtain ⟨_, g2, _⟩ := vn_div hpb.1 (show 1 ≤ k + 1 by omega)
    have P0 : 0 < p ^ n := Int.pow_pos (by omega)
    have Pb : (p ^ n).natAbs < 2 ^ 2900 := sz_le (pow_sz hpb.1 hpb.2 _) (by omega)
    obtain ⟨_, _, _, t⟩ := trn_ok (a := ((k + 1 : Nat) : Int) / p ^ vn p (k + 1)) P0 (by omega) (prime_gcd hp g2 n)
    rw [mfc, ep, Int.pow_succ]
    obtain ⟨m, hm⟩ : ∃ m, m = ((k + 1 : Nat) : Int) / p ^ vn p (k + 1) := ⟨_, rfl⟩
    rw [← hm] at t ⊢
    have a := (Mo.refl (p ^ n) (mfc p k * m)).mul (Mo.emod (p ^ n) (ep p n u k * u * trn m (p ^ n)))
    refine a.trans ?_
    have b := (ih.mul (Mo.refl (p ^ n) u)).mul t
    exact (Mo.of_eq (by grind)).trans (b.trans (.of_eq (by grind)))
theorem ee_spec {p : Int} (hp : p ∈ primesL) {n s : Nat} (hn : n ≤ 400) (hs : 1 ≤ s) (u : Int) (N : Nat) : ExQ p n (u * p ^ s) (ee p n u s) N := by
  intro k _
  have hpb := primesL_le p hp
  by_cases k0 : k = 0
  · subst k0
    exact .of_eq (by simp [ee, fac])
  · have w := wf_le hpb.1 k (by omega)
    have ks : k * 1 ≤ k * s := Nat.mul_le_mul_left k hs
    have e1 : k * s = wf p k + er p s k := by unfold er; omega
    have P := ep_spec hp hn u k
    obtain ⟨f1, f2⟩ := mfc_spec hp k
    have xk : (u * p ^ s) ^ k = u ^ k * p ^ (wf p k + er p s k) := by rw [Int.mul_pow, ← Int.pow_mul, Nat.mul_comm s k, e1]
    unfold ee
    rw [if_neg k0, xk]
    split
    · obtain ⟨z, hz⟩ := P
      refine ⟨z * p ^ er p s k, ?_⟩
      rw [f1, Int.pow_add, Int.pow_add]
      have : mfc p k * p ^ wf p k * (ep p n u k * p ^ er p s k) = (mfc p k * ep p n u k) * (p ^ wf p k * p ^ er p s k) := by grind
      rw [this, hz]
      grind
    · rename_i h
      refine Mo.symm ⟨u ^ k * p ^ (er p s k - n), ?_⟩
      have e2 : wf p k + er p s k = (n + wf p k) + (er p s k - n) := by omega
      rw [e2, Int.pow_add]
      grind
theorem f_exp_of {p : Int} {s : Nat} {ds : List Int} (hp : p ∈ primesL) (hd : Dg p ds) (hl : s + ds.length ≤ 400) (hs : 1 ≤ s) (h2 : p = 2 → 2 ≤ s) :
    F_exp_of [leftV p s ds] = .ok (leftV p (lead (digs p (sms (ee p (s + ds.length) (U p ds) s) (2 * (s + ds.length) + 1)) (s + ds.length))) (strip (digs p (sms (ee p (s + ds.length) (U p ds) s) (2 * (s + ds.length) + 1)) (s + ds.length)))) := by
  have hpb := primesL_le p hp
  obtain ⟨n, hn⟩ : ∃ n, n = s + ds.length := ⟨_, rfl⟩
  obtain ⟨u, hu⟩ : ∃ u, u = U p ds := ⟨_, rfl⟩
  have ub := U_nonneg hpb.1 hd
  have P0 : 0 < p ^ n := Int.pow_pos (by omega)
  have Pb : (p ^ n).natAbs < 2 ^ 2900 := sz_le (pow_sz hpb.1 hpb.2 _) (by omega)
  have Db : (p ^ ds.length).natAbs < 2 ^ 2900 := sz_le (pow_sz hpb.1 hpb.2 _) (by omega)
  have En := f_end p s ds
  have Un := f_unit p s ds hpb.1 hpb.2 hd (by omega)
  rw [show (s : Int) + (ds.length : Int) = n by omega] at En
  rw [← hn] at hl ⊢
  rw [← hu] at ub Un ⊢
  have pw := f_power_of p n (by omega) (by omega) (by omega)
  rw [Int.toNat_natCast] at pw
  have m2 : mulP (.int 2) (.int (n : Int)) = .ok (.int (2 * n)) := mulP_sm (by omega) (by omega) (by omega) (by omega)
  have hr : rng2 [.int 1, .int (2 * (n : Int) + 2)] = .ok (rngL 1 (2 * n + 1)) := by rw [rng2_all, show (2 * (n : Int) + 2 - 1).toNat = 2 * n + 1 by omega]
  obtain ⟨X, hX⟩ : ∃ X, X = PV.tup (ds.map PV.int) := ⟨_, rfl⟩
  have g : gT (gsCons (gN 1) (gsCons (gN 2) (gsCons (gN 3) gsNil))) (leftV p s ds) [.val (leftV p s ds), .un, .un, .un, .un, .un, .un, .un, .un, .un, .un, .un] = some [.val (leftV p s ds), .val (.int p), .val (.int s), .val X, .un, .un, .un, .un, .un, .un, .un, .un] := by rw [hX]; rfl
  obtain ⟨V, hV⟩ : ∃ V, V = leftV p s ds := ⟨_, rfl⟩
  rw [← hV] at g En Un ⊢
  have ep0 : ∀ j, 0 ≤ ep p n u j ∧ (ep p n u j).natAbs < 2 ^ 2901 := fun j => by
    cases j with
    | zero => exact ⟨by rw [ep]; omega, by rw [ep]; decide⟩
    | succ j =>
      rw [ep]
      have h0 := Int.emod_nonneg (ep p n u j * u * trn (((j + 1 : Nat) : Int) / p ^ vn p (j + 1)) (p ^ n)) (show p ^ n ≠ 0 by omega)
      have h1 := Int.emod_lt_of_pos (ep p n u j * u * trn (((j + 1 : Nat) : Int) / p ^ vn p (j + 1)) (p ^ n)) P0
      exact ⟨h0, by omega⟩
  obtain ⟨ρ', e1, s10, s11, rfl⟩ := forL_rng (tgt := gN 10) (body := (bSeq (sSet 11 (eD F_exponent (aCons (eV 1) (aCons (eV 10) aNil)))) (bSeq (sSet 8 (e2 modP (e2 mulP (e2 mulP (eVo 8) (eVo 6)) (eD F_turned (aCons (e2 fdivP (eVo 10) (eD F_power_of (aCons (eV 1) (aCons (eV 11) aNil)))) (aCons (eV 5) aNil)))) (eVo 5))) (bSeq (sAug 9 (intP (fun _ _ => true) fun a b => .int (a + b)) (e2 subP (eVo 2) (eVo 11))) (bSeq (sIf (tB1 (e2 ltP (eVo 9) (eVo 4))) (bSeq (sAug 7 (intP (fun _ _ => true) fun a b => .int (a + b)) (e2 mulP (eVo 8) (eD F_power_of (aCons (eV 1) (aCons (eV 9) aNil))))) bNil) bNil) bNil)))))
    (fun j ρ => ∃ s10 s11 : Slot, ρ = [.val V, .val (.int p), .val (.int s), .val X, .val (.int n), .val (.int (p ^ n)), .val (.int u), .val (.int (sms (ee p n u s) j)), .val (.int (ep p n u j)), .val (.int ((j * s : Nat) - (wf p j : Int))), s10, s11]) 1 (2 * n + 1) [.val V, .val (.int p), .val (.int s), .val X, .val (.int n), .val (.int (p ^ n)), .val (.int u), .val (.int 1), .val (.int 1), .val (.int 0), .un, .un]
    ⟨.un, .un, by simp [sms, ee, ep, wf]⟩ (fun j ρ hj ⟨s10, s11, e⟩ => by
      subst e
      obtain ⟨k, hk⟩ : ∃ k, k = j + 1 := ⟨_, rfl⟩
      have ek : 1 + (j : Int) = k := by omega
      rw [ek]
      have k1 : 1 ≤ k := by omega
      obtain ⟨_, _, _, _, v4⟩ := vn_spec hpb.1 k1
      obtain ⟨_, g2, _⟩ := vn_div hpb.1 k1
      have ex := f_exp hpb.1 (show p < 2 ^ 8000 by omega) (show (k : Int) ≠ 0 by omega)
      rw [v4] at ex
      have v12 : vn p k < 10 := vn_sm hpb.1 k1 (by omega)
      have pv := f_power_of p (vn p k) (by omega) (by omega) (by omega)
      rw [Int.toNat_natCast] at pv
      have L0 : 0 < p ^ vn p k := Int.pow_pos (by omega)
      have Lb : (p ^ vn p k).natAbs < 2 ^ 100 := sz_le (pow_sz hpb.1 hpb.2 _) (by omega)
      obtain ⟨t1, t2, t3, t4⟩ := trn_ok (a := (k : Int) / p ^ vn p k) P0 (by omega) (prime_gcd hp g2 n)
      obtain ⟨E0, Eb⟩ := ep0 j
      obtain ⟨E0', Eb'⟩ := ep0 k
      have fd := fdivP_pos (a := (k : Int)) L0 (by omega)
      have mm1 : mulP (.int (ep p n u j)) (.int u) = .ok (.int (ep p n u j * u)) := mulP_ii (okMul_of Eb (n := 2900) (by omega) (by omega) (by omega) (by omega))
      have mm2 : mulP (.int (ep p n u j * u)) (.int (trn ((k : Int) / p ^ vn p k) (p ^ n))) = .ok (.int (ep p n u j * u * trn ((k : Int) / p ^ vn p k) (p ^ n))) := mulP_ii (okMul_of (mul_lt Eb (show u.natAbs < 2 ^ 2900 by omega) (k := 6000) (by omega)) (n := 2900) (by omega) (by omega) (by omega) (by omega))
      have mo := modP_pos (a := ep p n u j * u * trn ((k : Int) / p ^ vn p k) (p ^ n)) P0
      have epk : ep p n u k = ep p n u j * u * trn ((k : Int) / p ^ vn p k) (p ^ n) % p ^ n := by rw [hk, ep]
      rw [← epk] at mo
      have w := wf_le hpb.1 k k1
      have ks : k * 1 ≤ k * s := Nat.mul_le_mul_left k hs
      have wk : wf p k = wf p j + vn p k := by rw [hk, wf]
      have kj : k * s = j * s + s := by rw [hk, Nat.add_mul, Nat.one_mul]
      have ri : ((j * s : Nat) : Int) - (wf p j : Int) + ((s : Int) - (vn p k : Int)) = ((k * s : Nat) : Int) - (wf p k : Int) := by rw [wk, kj]; omega
      have re : ((k * s : Nat) : Int) - (wf p k : Int) = (er p s k : Int) := by unfold er; omega
      have sm : sms (ee p n u s) k = sms (ee p n u s) j + ee p n u s k := by rw [hk]; rfl
      have eek : ee p n u s k = if er p s k < n then ep p n u k * p ^ er p s k else 0 := by unfold ee; rw [if_neg (by omega)]
      rw [← hk]
      refine ⟨_, .inl ?_, .val (.int k), .val (.int (vn p k)), rfl⟩
      simp only [turnL, gN_eq, List.set_cons_succ, List.set_cons_zero]
      refine sqS (.int (vn p k)) (by simp only [eD_eq, aCons_eq, aNil_eq, eV0, eVs, bind1, ex]) ?_
      refine sqS (.int (ep p n u k)) (by simp only [List.set_cons_succ, List.set_cons_zero, e2_eq, eD_eq, aCons_eq, aNil_eq, eV0, eVs, eVo0, eVos, bind1, pv, fd, t1, mm1, mm2, mo]) ?_
      simp only [List.set_cons_succ, List.set_cons_zero]
      refine sqN (ρ' := [.val V, .val (.int p), .val (.int s), .val X, .val (.int n), .val (.int (p ^ n)), .val (.int u), .val (.int (sms (ee p n u s) j)), .val (.int (ep p n u k)), .val (.int ((k * s : Nat) - (wf p k : Int))), .val (.int k), .val (.int (vn p k))]) (by
        simp only [sAug0, List.getElem?_cons_succ, List.getElem?_cons_zero, e2_eq, eVo0, eVos, bind1, subP_ii, iadd_ii, st_ok, List.set_cons_succ, List.set_cons_zero, ri]) ?_
      rw [re, sm, eek]
      by_cases c : er p s k < n
      · have c' : decide (((er p s k : Nat) : Int) < (n : Int)) = true := decide_eq_true (by omega)
        have pr := f_power_of p (er p s k) (by omega) (by omega) (by omega)
        rw [Int.toNat_natCast] at pr
        have mr : mulP (.int (ep p n u k)) (.int (p ^ er p s k)) = .ok (.int (ep p n u k * p ^ er p s k)) := mulP_ii (okMul_of Eb' (n := 2900) (sz_le (pow_sz hpb.1 hpb.2 _) (by omega)) (by omega) (by omega) (by omega))
        rw [if_pos c]
        simp only [bSeq_eq, sIf_eq, tB1_eq, e2_eq, eVo0, eVos, bind1, ltP_ii, c', asB_eq, stB_ok, if_true, sAug0, List.getElem?_cons_succ, List.getElem?_cons_zero, eD_eq, aCons_eq, aNil_eq, eV0, eVs, pr, mr, iadd_ii, st_ok, List.set_cons_succ, List.set_cons_zero, then_next, bNil_eq]
      · have c' : decide (((er p s k : Nat) : Int) < (n : Int)) = false := decide_eq_false (by omega)
        rw [if_neg c, Int.add_zero]
        simp only [bSeq_eq, sIf_eq, tB1_eq, e2_eq, eVo0, eVos, bind1, ltP_ii, c', asB_eq, stB_ok, if_neg Bool.false_ne_true, then_next, bNil_eq])
  have mT := modP_pos (a := sms (ee p n u s) (2 * n + 1)) P0
  have W := f_of_whole p 0 (sms (ee p n u s) (2 * n + 1) % p ^ n) n hp (by omega)
  rw [digs_mo hpb.1 n (Mo.emod (p ^ n) (sms (ee p n u s) (2 * n + 1))), Int.zero_add] at W
  refine (runF_eq (n := 12) (u := D_exp_of)).trans ?_
  show (D_exp_of [.val V, .un, .un, .un, .un, .un, .un, .un, .un, .un, .un, .un]).res = _
  unfold D_exp_of
  refine stpN (by rw [sTo_eq, eV0, st_ok, g]) ?_
  have c1 : decide ((s : Int) < 1) = false := decide_eq_false (by omega)
  refine skp (by
    simp only [tOr_eq, tAn_eq, tB1_eq, e2_eq, eC_eq, eVo0, eVos, bind1, ltP_ii, c1, asB_eq, if_neg Bool.false_ne_true, eqP_ii]
    by_cases h : p = 2
    · have c2 : decide ((s : Int) < 2) = false := decide_eq_false (by have := h2 h; omega)
      have c3 : (p == 2) = true := by simpa using h
      rw [c3, if_pos rfl, c2]
    · have c3 : (p == 2) = false := by simpa using h
      rw [c3, if_neg Bool.false_ne_true]) ?_
  refine stp (.int n) (by simp only [List.set_cons_succ, List.set_cons_zero, eD_eq, aCons_eq, aNil_eq, eV0, bind1, En]) ?_
  refine stp (.int (p ^ n)) (by simp only [List.set_cons_succ, List.set_cons_zero, eD_eq, aCons_eq, aNil_eq, eV0, eVs, bind1, pw]) ?_
  refine stp (.int u) (by simp only [List.set_cons_succ, List.set_cons_zero, eD_eq, aCons_eq, aNil_eq, eV0, bind1, Un]) ?_
  refine stp (.int 1) (by simp only [eC_eq]) ?_
  refine stp (.int 1) (by simp only [eC_eq]) ?_
  refine stp (.int 0) (by simp only [eC_eq]) ?_
  simp only [List.set_cons_succ, List.set_cons_zero]
  refine stpFor (rngL 1 (2 * n + 1)) _ (by simp only [iR_eq, e2_eq, aCons_eq, aNil_eq, eC_eq, eVo0, eVos, bind1, m2, addP_ii, hr]) e1 ?_
  simp only [bSeq_eq, sRet_eq, e2_eq, eD_eq, aCons_eq, aNil_eq, eC_eq, eV0, eVs, eVo0, eVos, bind1, mT, W, st_ok, then_ret, res_ret]
end PM
set_option Elab.async false
set_option linter.all false
set_option maxRecDepth 100000
set_option autoImplicit false
set_option exponentiation.threshold 20000
namespace PM
theorem Mo.zero {m x : Int} (z : Int) (h : x = m * z) : Mo m x 0 := ⟨z, by rw [h, Int.zero_add]⟩
theorem Mo.scaleP {p X Y c : Int} {a b : Nat} (h : Mo (p ^ a) X Y) (hc : Mo (p ^ b) c 0) : Mo (p ^ (a + b)) (X * c) (Y * c) := by
  obtain ⟨z, hz⟩ := h
  obtain ⟨w, hw⟩ := hc
  exact ⟨z * w, by rw [hz, hw, Int.pow_add]; grind⟩
theorem Mo.zeroP {p X c : Int} {a b : Nat} (h : Mo (p ^ a) X 0) (hc : Mo (p ^ b) c 0) : Mo (p ^ (a + b)) (X * c) 0 := by
  have := Mo.scaleP h hc
  rwa [Int.zero_mul] at this
theorem Mo.zero_mul {m X : Int} (c : Int) (h : Mo m X 0) : Mo m (X * c) 0 := by
  obtain ⟨z, hz⟩ := h
  exact ⟨z * c, by rw [hz]; grind⟩
theorem pow_step {p A B : Int} (hp : 2 ≤ p) {E : Nat} (hE : 1 ≤ E) (h : Mo (p ^ E) A B) : Mo (p ^ (E + 1)) (A ^ p.toNat) (B ^ p.toNat) := by
  obtain ⟨z, hz⟩ := h
  obtain ⟨n, hn⟩ : ∃ n, p.toNat = n + 1 := ⟨p.toNat - 1, by omega⟩
  have pn : ((n : Int) + 1) = p := by omega
  obtain ⟨w, hw⟩ := Gm_mod1 B (p ^ E * z) n
  have e := Gm_eq A B (n + 1)
  rw [hn, e]
  have d : A - B = p ^ E * z := by omega
  have f : B + p ^ E * z = A := by omega
  rw [f, pn] at hw
  obtain ⟨F, rfl⟩ : ∃ F, E = F + 1 := ⟨E - 1, by omega⟩
  refine ⟨z * (B ^ n + p ^ F * z * w), ?_⟩
  rw [d, hw, Int.pow_succ, Int.pow_succ]
  grind
theorem pow_steps {p A B : Int} (hp : 2 ≤ p) {E : Nat} (hE : 1 ≤ E) (h : Mo (p ^ E) A B) : ∀ v : Nat, Mo (p ^ (E + v)) (A ^ (p.toNat ^ v)) (B ^ (p.toNat ^ v))
  | 0 => by rw [Nat.pow_zero, Int.pow_succ, Int.pow_succ, Int.pow_zero, Int.one_mul, Int.pow_zero, Int.one_mul]; exact h
  | v + 1 => by
    have ih := pow_steps hp hE h v
    have s := pow_step hp (show 1 ≤ E + v by omega) ih
    rw [← Int.pow_mul, ← Int.pow_mul] at s
    rw [Nat.pow_succ]
    exact s
theorem sgs_tail {W : Int} {q : Nat → Int} {M : Nat} : ∀ N : Nat, M ≤ N → (∀ k, M < k → k ≤ N → Mo W (q k) 0) → Mo W (sgs q N) (sgs q M)
  | 0, h, _ => by
    have e : M = 0 := by omega
    subst e; exact .refl _ _
  | N + 1, h, t => by
    by_cases e : M = N + 1
    · subst e; exact .refl _ _
    · have ih := sgs_tail N (by omega) fun k h1 h2 => t k h1 (by omega)
      have l := t (N + 1) (by omega) (by omega)
      rw [sgs]
      have z : Mo W (if (N + 1) % 2 = 1 then q (N + 1) else -q (N + 1)) 0 := by
        split
        · exact l
        · have s := (Mo.refl W 0).sub l
          rw [Int.zero_sub, Int.sub_zero] at s
          exact s
      exact (ih.add z).trans (.of_eq (Int.add_zero _))
theorem sms_tail {W : Int} {q : Nat → Int} {M : Nat} : ∀ N : Nat, M ≤ N → (∀ k, M < k → k ≤ N → Mo W (q k) 0) → Mo W (sms q N) (sms q M)
  | 0, h, _ => by
    have e : M = 0 := by omega
    subst e; exact .refl _ _
  | N + 1, h, t => by
    by_cases e : M = N + 1
    · subst e; exact .refl _ _
    · have ih := sms_tail N (by omega) fun k h1 h2 => t k h1 (by omega)
      rw [sms]
      exact (ih.add (t (N + 1) (by omega) (by omega))).trans (.of_eq (Int.add_zero _))
section
variable {p x : Int} {E : Nat}
theorem lg_tail (hp : p ∈ primesL) {q : Nat → Int} {N s k : Nat} (h : LgQ p E x q N) (hx : Mo (p ^ s) x 0) (h1 : 1 ≤ k) (hN : k ≤ N) (hs : E + vn p k ≤ s * k) : Mo (p ^ E) (q k) 0 := by
  have hpb := primesL_le p hp
  obtain ⟨m, v1, v2, _, _⟩ := vn_spec hpb.1 h1
  have a := (h k h1 hN).trans ((pow_mo0 hx k).low hs)
  refine Mo.canc hp v2 (v := vn p k) ?_
  rw [← v1, Int.mul_zero]; exact a
theorem ex_tail (hp : p ∈ primesL) {e : Nat → Int} {N s k : Nat} (h : ExQ p E x e N) (hx : Mo (p ^ s) x 0) (hN : k ≤ N) (hs : E + wf p k ≤ s * k) : Mo (p ^ E) (e k) 0 := by
  obtain ⟨f1, f2⟩ := mfc_spec hp k
  have a := (h k hN).trans ((pow_mo0 hx k).low hs)
  refine Mo.canc hp f2 (v := wf p k) ?_
  rw [← f1, Int.mul_zero]; exact a
end
theorem digs_shift {p : Int} (hp : 2 ≤ p) (y : Int) (m : Nat) : ∀ s : Nat, digs p (p ^ s * y) (s + m) = List.replicate s 0 ++ digs p y m
  | 0 => by simp
  | s + 1 => by
    have e : p ^ (s + 1) * y = (p ^ s * y) * p := by rw [Int.pow_succ]; grind
    rw [show s + 1 + m = (s + m) + 1 by omega, digs, e, Int.mul_emod_left, Int.mul_ediv_cancel _ (by omega), digs_shift hp y m s, List.replicate_succ, List.cons_append]
theorem lead_ge {p T : Int} (hp : 2 ≤ p) {s n : Nat} (h : Mo (p ^ s) T 0) (hs : s ≤ n) : s ≤ lead (digs p T n) := by
  obtain ⟨y, hy⟩ := h
  rw [Int.zero_add] at hy
  obtain ⟨m, rfl⟩ : ∃ m, n = s + m := ⟨n - s, by omega⟩
  rw [hy, digs_shift hp]
  generalize digs p y m = r
  clear hy
  induction s with
  | zero => exact Nat.zero_le _
  | succ s ih =>
    have := ih (by omega)
    rw [List.replicate_succ, List.cons_append]
    simpa [lead] using this
theorem told_val {p T : Int} (hp : 2 ≤ p) (n : Nat) : U p (strip (digs p T n)) * p ^ lead (digs p T n) = T % p ^ n := by rw [← U_strip, U_digs hp]
theorem lead_nz {ds : List Int} (h : ds.head? ≠ some 0) : lead ds = 0 ∧ strip ds = ds := by
  cases ds with
  | nil => exact ⟨rfl, rfl⟩
  | cons d r =>
    have hd : d ≠ 0 := fun z => h (by rw [z]; rfl)
    have e : (d == 0) = false := by simpa using hd
    simp [lead, strip, e]
theorem digs_head (p T : Int) {n : Nat} (h : 1 ≤ n) : (digs p T n).head? = some (T % p) := by
  obtain ⟨m, rfl⟩ : ∃ m, n = m + 1 := ⟨n - 1, by omega⟩
  rfl
theorem digs_second (p T : Int) {n : Nat} (h : 2 ≤ n) : (digs p T n)[1]? = some (T / p % p) := by
  obtain ⟨m, rfl⟩ : ∃ m, n = m + 2 := ⟨n - 2, by omega⟩
  rfl
/-- a number near one, by its figures -/
theorem near_digs {p x : Int} (hp : 2 ≤ p) {n : Nat} (h0 : 0 ≤ x) (h1 : x < p ^ n) (hn : 1 ≤ n) (hx : Mo (p ^ 1) x 0) (h2 : p = 2 → 2 ≤ n ∧ Mo (p ^ 2) x 0) :
    (digs p (x + 1) n).head? = some 1 ∧ (p = 2 → (digs p (x + 1) n)[1]? = some 0) ∧ U p (digs p (x + 1) n) = x + 1 := by
  obtain ⟨z, hz⟩ := hx
  rw [Int.zero_add, Int.pow_succ, Int.pow_zero, Int.one_mul] at hz
  have m1 : (x + 1) % p = 1 := by rw [hz, Int.add_comm, Int.add_mul_emod_self_left]; exact Int.emod_eq_of_lt (by omega) (by omega)
  refine ⟨by rw [digs_head p _ hn, m1], fun e => ?_, ?_⟩
  · obtain ⟨k1, w, hw⟩ := h2 e
    rw [digs_second p _ k1]
    subst e
    rw [Int.zero_add] at hw
    congr 1
    omega
  · rw [U_digs hp]
    refine Int.emod_eq_of_lt (by omega) ?_
    have ne : x + 1 ≠ p ^ n := fun e => by
      obtain ⟨m, rfl⟩ : ∃ m, n = m + 1 := ⟨n - 1, by omega⟩
      rw [e, Int.pow_succ, Int.mul_emod_left] at m1
      omega
    omega
theorem LgQ.low {p x : Int} {E F N : Nat} {q : Nat → Int} (h : LgQ p E x q N) (hF : F ≤ E) : LgQ p F x q N := fun k h1 h2 => (h k h1 h2).low (by omega)
theorem ExQ.low {p x : Int} {E F N : Nat} {q : Nat → Int} (h : ExQ p E x q N) (hF : F ≤ E) : ExQ p F x q N := fun k h2 => (h k h2).low (by omega)
theorem LgQ.near {p x : Int} (hp : p ∈ primesL) {E N s : Nat} {q : Nat → Int} (h : LgQ p E x q N) (hs : 1 ≤ s ∧ s ≤ E) (hx : Mo (p ^ s) x 0) : Mo (p ^ s) (sgs q N) 0 := by
  have hpb := primesL_le p hp
  refine sgs_tail N (Nat.zero_le _) fun k k1 k2 => lg_tail hp (h.low hs.2) hx k1 k2 ?_
  have := vn_le hpb.1 k k1
  obtain ⟨j, rfl⟩ : ∃ j, k = j + 1 := ⟨k - 1, by omega⟩
  have : 1 * j ≤ s * j := Nat.mul_le_mul_right j hs.1
  rw [Nat.mul_add]
  omega
theorem ExQ.near {p x : Int} (hp : p ∈ primesL) {E N s : Nat} {q : Nat → Int} (h : ExQ p E x q N) (h0 : q 0 = 1) (hs : 1 ≤ s ∧ s ≤ E) (hx : Mo (p ^ s) x 0) : Mo (p ^ s) (sms q N) 1 := by
  have hpb := primesL_le p hp
  have e : sms q 0 = 1 := h0
  rw [← e]
  refine sms_tail N (Nat.zero_le _) fun k k1 k2 => ex_tail hp (h.low hs.2) hx k2 ?_
  have := wf_le hpb.1 k k1
  obtain ⟨j, rfl⟩ : ∃ j, k = j + 1 := ⟨k - 1, by omega⟩
  have : 1 * j ≤ s * j := Nat.mul_le_mul_right j hs.1
  rw [Nat.mul_add]
  omega
end PM
set_option Elab.async false
set_option linter.all false
set_option maxRecDepth 100000
set_option autoImplicit false
set_option exponentiation.threshold 20000
namespace PM
def cb : Nat → Nat → Int
  | _, 0 => 1
  | 0, _ + 1 => 0
  | n + 1, k + 1 => cb n k + cb n (k + 1)
theorem cb_zero (n : Nat) : cb n 0 = 1 := by cases n <;> rfl
theorem cb_step (n k : Nat) : cb (n + 1) (k + 1) = cb n k + cb n (k + 1) := rfl
theorem cb_abs : ∀ n k : Nat, ((k + 1 : Nat) : Int) * cb (n + 1) (k + 1) = ((n + 1 : Nat) : Int) * cb n k
  | 0, 0 => by rw [cb_step, cb_zero]; rfl
  | 0, k + 1 => by rw [cb_step]; show ((k + 1 + 1 : Nat) : Int) * (0 + 0) = ((0 + 1 : Nat) : Int) * 0; omega
  | n + 1, 0 => by
    have h := cb_abs n 0
    rw [cb_step (n + 1) 0, cb_zero]
    rw [cb_zero] at h
    have e : ((0 + 1 : Nat) : Int) = 1 := rfl
    rw [e] at h ⊢
    have e2 : ((n + 1 + 1 : Nat) : Int) = ((n + 1 : Nat) : Int) + 1 := by omega
    rw [e2]
    grind
  | n + 1, k + 1 => by
    have h1 := cb_abs n (k + 1)
    have h0 := cb_abs n k
    have s := cb_step (n + 1) (k + 1)
    have t := cb_step n k
    have e1 : ((k + 1 + 1 : Nat) : Int) = ((k + 1 : Nat) : Int) + 1 := by omega
    have e2 : ((n + 1 + 1 : Nat) : Int) = ((n + 1 : Nat) : Int) + 1 := by omega
    rw [e1] at h1
    rw [s, e1, e2]
    obtain ⟨a, ha⟩ : ∃ a, a = ((k + 1 : Nat) : Int) := ⟨_, rfl⟩
    obtain ⟨b, hb⟩ : ∃ b, b = ((n + 1 : Nat) : Int) := ⟨_, rfl⟩
    rw [← ha, ← hb] at h1 h0 ⊢
    grind
theorem sms_shift (x : Int) (P : Nat) : ∀ M : Nat, sms (fun k => cb (P + 1) k * x ^ k) (M + 1) = sms (fun k => cb P k * x ^ k) (M + 1) + x * sms (fun k => cb P k * x ^ k) M
  | 0 => by
    show cb (P + 1) 0 * x ^ 0 + cb (P + 1) 1 * x ^ 1 = cb P 0 * x ^ 0 + cb P 1 * x ^ 1 + x * (cb P 0 * x ^ 0)
    rw [cb_zero, cb_zero, cb_step, cb_zero, Int.pow_succ, Int.pow_zero]
    grind
  | M + 1 => by
    have ih := sms_shift x P M
    have e1 : sms (fun k => cb (P + 1) k * x ^ k) (M + 1 + 1) = sms (fun k => cb (P + 1) k * x ^ k) (M + 1) + cb (P + 1) (M + 1 + 1) * x ^ (M + 1 + 1) := rfl
    have e2 : sms (fun k => cb P k * x ^ k) (M + 1 + 1) = sms (fun k => cb P k * x ^ k) (M + 1) + cb P (M + 1 + 1) * x ^ (M + 1 + 1) := rfl
    have e3 : sms (fun k => cb P k * x ^ k) (M + 1) = sms (fun k => cb P k * x ^ k) M + cb P (M + 1) * x ^ (M + 1) := rfl
    rw [e1, e2, ih, cb_step, e3, Int.pow_succ x (M + 1)]
    grind
theorem cb_big : ∀ n k : Nat, n < k → cb n k = 0
  | _, 0, h => by omega
  | 0, k + 1, _ => rfl
  | n + 1, k + 1, h => by rw [cb_step, cb_big n k (by omega), cb_big n (k + 1) (by omega)]; rfl
theorem binom (x : Int) : ∀ P M : Nat, P ≤ M → sms (fun k => cb P k * x ^ k) M = (1 + x) ^ P
  | 0, M, _ => by
    induction M with
    | zero => show cb 0 0 * x ^ 0 = _; rw [cb_zero, Int.pow_zero, Int.pow_zero]; rfl
    | succ M ih =>
      have e : sms (fun k => cb 0 k * x ^ k) (M + 1) = sms (fun k => cb 0 k * x ^ k) M + cb 0 (M + 1) * x ^ (M + 1) := rfl
      rw [e, ih (Nat.zero_le _), cb_big 0 (M + 1) (by omega), Int.zero_mul, Int.add_zero]
  | P + 1, M, h => by
    obtain ⟨m, rfl⟩ : ∃ m, M = m + 1 := ⟨M - 1, by omega⟩
    rw [sms_shift, binom x P (m + 1) (by omega), binom x P m (by omega), Int.pow_succ]
    grind
theorem two_le_pow : ∀ v : Nat, 2 * v ≤ 2 ^ v
  | 0 => by decide
  | 1 => by decide
  | v + 2 => by
    have := two_le_pow (v + 1)
    rw [Nat.pow_succ]
    omega
theorem vn_half {p : Int} (hp : 2 ≤ p) {n : Nat} (hn : 1 ≤ n) : 2 * vn p n ≤ n := by
  obtain ⟨m, h1, _, h3, _⟩ := vn_spec hp hn
  have h := two_le_pow (vn p n)
  rcases Nat.lt_or_ge n (2 ^ vn p n) with g | g
  · exact absurd (vn_sm hp hn g) (by omega)
  · omega
theorem vn_far {p : Int} (hp : 2 ≤ p) {E n : Nat} (hE : E ≤ 1000) (hn : E + 13 ≤ n) : E + vn p n ≤ n := by
  have h := vn_half hp (show 1 ≤ n by omega)
  rcases Nat.lt_or_ge n 8192 with g | g
  · have := vn_sm hp (k := 13) (show 1 ≤ n by omega) (by omega)
    omega
  · omega
def sgn (j : Nat) : Int := if j % 2 = 0 then 1 else -1
theorem cb_sgn {p : Int} (hp : p ∈ primesL) {K L : Nat} (hK : 1 ≤ K) (hL : L ≤ K) : ∀ j : Nat, (∀ i, 1 ≤ i → i ≤ j → vn p i ≤ L) → Mo (p ^ (K - L)) (cb (p.toNat ^ K - 1) j) (sgn j)
  | 0, _ => .of_eq (by rw [cb_zero]; rfl)
  | j + 1, h => by
    have hpb := primesL_le p hp
    have ih := cb_sgn hp hK hL j fun i h1 h2 => h i h1 (by omega)
    have P0 : 0 < p.toNat ^ K := Nat.pow_pos (by omega)
    obtain ⟨Q, hQ⟩ : ∃ Q, p.toNat ^ K = Q + 1 := ⟨p.toNat ^ K - 1, by omega⟩
    have PQ : ((Q + 1 : Nat) : Int) = p ^ K := by rw [← hQ, Int.natCast_pow, show ((p.toNat : Nat) : Int) = p by omega]
    rw [hQ, Nat.add_sub_cancel] at ih ⊢
    have ab := cb_abs Q j
    rw [cb_step, PQ] at ab
    obtain ⟨m, v1, v2, _, _⟩ := vn_spec hpb.1 (show 1 ≤ j + 1 by omega)
    have vl := h (j + 1) (by omega) (Nat.le_refl _)
    have z : Mo (p ^ (K - vn p (j + 1))) (cb Q j + cb Q (j + 1)) 0 := by
      refine Mo.canc hp v2 (v := vn p (j + 1)) ?_
      rw [show K - vn p (j + 1) + vn p (j + 1) = K by omega, Int.mul_zero, ← v1]
      exact Mo.zero (cb Q j) ab
    have z' := (z.low (show K - L ≤ K - vn p (j + 1) by omega)).sub ih
    have e : sgn (j + 1) = 0 - sgn j := by
      unfold sgn
      by_cases o : j % 2 = 0
      · rw [if_pos o, if_neg (by omega)]; rfl
      · rw [if_neg o, if_pos (by omega)]; rfl
    rw [e]
    exact (Mo.of_eq (by grind)).trans z'
theorem sms_sgs {W c : Int} {f q : Nat → Int} : ∀ M : Nat, (∀ k, 1 ≤ k → k ≤ M → Mo W (f k) (c * sgn (k - 1) * q k)) → Mo W (sms f M) (f 0 + c * sgs q M)
  | 0, _ => .of_eq (by simp [sms, sgs])
  | M + 1, h => by
    have ih := sms_sgs M fun k h1 h2 => h k h1 (by omega)
    have l := h (M + 1) (by omega) (Nat.le_refl _)
    rw [sms, sgs]
    have s := ih.add l
    refine s.trans (.of_eq ?_)
    rw [Nat.add_sub_cancel]
    unfold sgn
    by_cases o : M % 2 = 0
    · rw [if_pos o, if_pos (by omega)]; grind
    · rw [if_neg o, if_neg (by omega)]; grind
theorem ek {p x : Int} (hp : p ∈ primesL) {E K : Nat} {q : Nat → Int} (hE : E ≤ 400) (hK : E + 10 ≤ K) (hx : Mo (p ^ 1) x 0) (h : LgQ p E x q (E + 12)) :
    Mo (p ^ (E + K)) (p ^ K * sgs q (E + 12)) ((1 + x) ^ (p.toNat ^ K) - 1) := by
  have hpb := primesL_le p hp
  obtain ⟨N, hN⟩ : ∃ N, N = E + 12 := ⟨_, rfl⟩
  rw [← hN] at h ⊢
  obtain ⟨P, hP⟩ : ∃ P, P = p.toNat ^ K := ⟨_, rfl⟩
  have P0 : 0 < p.toNat ^ K := Nat.pow_pos (by omega)
  have PI : ((P : Nat) : Int) = p ^ K := by rw [hP, Int.natCast_pow, show ((p.toNat : Nat) : Int) = p by omega]
  obtain ⟨Q, hQ⟩ : ∃ Q, P = Q + 1 := ⟨P - 1, by omega⟩
  obtain ⟨f, hf⟩ : ∃ f : Nat → Int, f = fun k => cb P k * x ^ k := ⟨_, rfl⟩
  have b := binom x P (N + P) (by omega)
  rw [← hf] at b
  rw [← hP, ← b]
  -- one term
  have term : ∀ k, 1 ≤ k → ((k : Nat) : Int) * f k = p ^ K * cb Q (k - 1) * x ^ k := fun k k1 => by
    obtain ⟨j, rfl⟩ : ∃ j, k = j + 1 := ⟨k - 1, by omega⟩
    have ab := cb_abs Q j
    rw [← hQ, PI] at ab
    rw [hf]
    show ((j + 1 : Nat) : Int) * (cb P (j + 1) * x ^ (j + 1)) = _
    rw [← Int.mul_assoc, ab, Nat.add_sub_cancel]
  have tail : Mo (p ^ (E + K)) (sms f (N + P)) (sms f N) := sms_tail (N + P) (by omega) fun k k1 k2 => by
    obtain ⟨m, v1, v2, _, _⟩ := vn_spec hpb.1 (show 1 ≤ k by omega)
    have vf := vn_far hpb.1 (E := E) (n := k) (by omega) (by omega)
    refine Mo.canc hp v2 (v := vn p k) ?_
    rw [Int.mul_zero, ← v1, term k (by omega)]
    have xk := pow_mo0 hx k
    rw [Nat.one_mul] at xk
    have a := Mo.zeroP (xk.low vf) (Mo.zero (m := p ^ K) (cb Q (k - 1)) (rfl : p ^ K * cb Q (k - 1) = _))
    rw [show E + vn p k + K = E + K + vn p k by omega] at a
    exact (Mo.of_eq (Int.mul_comm _ _)).trans a
  have main : Mo (p ^ (E + K)) (sms f N) (f 0 + p ^ K * sgs q N) := sms_sgs N fun k k1 k2 => by
    obtain ⟨m, v1, v2, _, _⟩ := vn_spec hpb.1 k1
    have c1 : Mo (p ^ (E + K)) (f k) (p ^ K * cb Q (k - 1) * q k) := by
      refine Mo.canc hp v2 (v := vn p k) ?_
      rw [← v1, term k k1]
      have a := Mo.scaleP (h k k1 k2) (Mo.zero (m := p ^ K) (cb Q (k - 1)) (rfl : p ^ K * cb Q (k - 1) = _))
      rw [show E + vn p k + K = E + K + vn p k by omega] at a
      exact (Mo.of_eq (Int.mul_comm _ _)).trans (a.symm.trans (.of_eq (by grind)))
    have c2 := cb_sgn hp (K := K) (L := 10) (by omega) (by omega) (k - 1) fun i i1 i2 => by
      have := vn_sm hpb.1 (k := 10) i1 (by omega)
      omega
    rw [← hP, hQ, Nat.add_sub_cancel] at c2
    have c3 := Mo.scaleP (c2.low (show E ≤ K - 10 by omega)) (Mo.zero (m := p ^ K) (q k) (rfl : p ^ K * q k = _))
    exact c1.trans ((Mo.of_eq (by grind)).trans (c3.trans (.of_eq (by grind))))
  have f0 : f 0 = 1 := by rw [hf]; show cb P 0 * x ^ 0 = 1; rw [cb_zero, Int.pow_zero]; rfl
  rw [f0] at main
  have s := (tail.trans main).sub (Mo.refl _ 1)
  exact ((Mo.of_eq (by grind)).trans (s.symm))
def Lg (p : Int) (E : Nat) (x T : Int) : Prop := ∃ K0 : Nat, ∀ K : Nat, K0 ≤ K → Mo (p ^ (E + K)) (p ^ K * T) ((1 + x) ^ (p.toNat ^ K) - 1)
theorem lg_of {p x : Int} (hp : p ∈ primesL) {E : Nat} {q : Nat → Int} (hE : E ≤ 400) (hx : Mo (p ^ 1) x 0) (h : LgQ p E x q (E + 12)) : Lg p E x (sgs q (E + 12)) := ⟨E + 10, fun _ hK => ek hp hE hK hx h⟩
theorem Lg.low {p x T : Int} {E F : Nat} (h : Lg p E x T) (hF : F ≤ E) : Lg p F x T := by
  obtain ⟨K0, h⟩ := h
  exact ⟨K0, fun K hK => (h K hK).low (by omega)⟩
theorem Lg.uniq {p x T S : Int} (hp : 2 ≤ p) {E : Nat} (h : Lg p E x T) (g : Lg p E x S) : Mo (p ^ E) T S := by
  obtain ⟨K0, h⟩ := h
  obtain ⟨K1, g⟩ := g
  exact Mo.cancP hp (v := K0 + K1) ((h (K0 + K1) (by omega)).trans (g (K0 + K1) (by omega)).symm)
theorem Lg.congr {p x y T : Int} (hp : 2 ≤ p) {E : Nat} (hE : 1 ≤ E) (h : Lg p E x T) (g : Mo (p ^ E) x y) : Lg p E y T := by
  obtain ⟨K0, h⟩ := h
  refine ⟨K0, fun K hK => (h K hK).trans ?_⟩
  exact (pow_steps hp hE ((Mo.refl _ 1).add g) K).sub (Mo.refl _ 1)
theorem Lg.congrT {p x T S : Int} {E : Nat} (h : Lg p E x T) (g : Mo (p ^ E) S T) : Lg p E x S := by
  obtain ⟨K0, h⟩ := h
  refine ⟨K0, fun K hK => Mo.trans ?_ (h K hK)⟩
  obtain ⟨z, hz⟩ := g
  exact ⟨z, by rw [hz, Int.pow_add]; grind⟩
theorem Lg.mul {p x y T S : Int} {E : Nat} (h : Lg p E x T) (g : Lg p E y S) : Lg p E (x + y + x * y) (T + S) := by
  obtain ⟨K0, h⟩ := h
  obtain ⟨K1, g⟩ := g
  refine ⟨E + K0 + K1, fun K hK => ?_⟩
  have h := h K (by omega)
  have g := g K (by omega)
  obtain ⟨X, hX⟩ : ∃ X, X = (1 + x) ^ (p.toNat ^ K) - 1 := ⟨_, rfl⟩
  obtain ⟨Y, hY⟩ : ∃ Y, Y = (1 + y) ^ (p.toNat ^ K) - 1 := ⟨_, rfl⟩
  have e : (1 + (x + y + x * y)) ^ (p.toNat ^ K) - 1 = X + Y + X * Y := by
    have e1 : 1 + (x + y + x * y) = (1 + x) * (1 + y) := by grind
    rw [e1, Int.mul_pow, hX, hY]
    grind
  rw [← hX] at h
  rw [← hY] at g
  rw [e]
  have z : Mo (p ^ (E + K)) (X * Y) 0 := by
    have x0 : Mo (p ^ K) X 0 := (h.symm.low (by omega)).trans (Mo.zero T rfl)
    have y0 : Mo (p ^ K) Y 0 := (g.symm.low (by omega)).trans (Mo.zero S rfl)
    exact (Mo.zeroP x0 y0).low (by omega)
  have s := (h.add g).add z.symm
  exact (Mo.of_eq (by grind)).trans s
theorem Lg.pow {p x T : Int} (hp : p ∈ primesL) {E k : Nat} (hk : 1 ≤ k) (h : Lg p E x T) : Lg p (E + vn p k) ((1 + x) ^ k - 1) (k * T) := by
  have hpb := primesL_le p hp
  obtain ⟨K0, h⟩ := h
  refine ⟨E + vn p k + K0, fun K hK => ?_⟩
  have h := h K (by omega)
  obtain ⟨X, hX⟩ : ∃ X, X = (1 + x) ^ (p.toNat ^ K) - 1 := ⟨_, rfl⟩
  rw [← hX] at h
  obtain ⟨n, hn⟩ : ∃ n, k = n + 1 := ⟨k - 1, by omega⟩
  obtain ⟨w, hw⟩ := pow_two_up 1 X n
  have e : (1 + ((1 + x) ^ k - 1)) ^ (p.toNat ^ K) - 1 = k * X + X * X * w := by
    have e1 : 1 + ((1 + x) ^ k - 1) = (1 + x) ^ k := by omega
    have e2 : (1 + x) ^ (p.toNat ^ K) = 1 + X := by omega
    rw [e1, ← Int.pow_mul, Nat.mul_comm, Int.pow_mul, e2, hn, hw, Int.one_pow, Int.one_pow, show ((n + 1 : Nat) : Int) = (n : Int) + 1 by omega]
    grind
  rw [e]
  have x0 : Mo (p ^ K) X 0 := (h.symm.low (by omega)).trans (Mo.zero T rfl)
  have z : Mo (p ^ (E + vn p k + K)) (X * X * w) 0 := Mo.zero_mul w ((Mo.zeroP x0 x0).low (by omega))
  obtain ⟨m, v1, _, _, _⟩ := vn_spec hpb.1 hk
  have a := Mo.scaleP h (Mo.zero (m := p ^ vn p k) m (show (k : Int) = _ by rw [v1, Int.mul_comm]))
  rw [show E + K + vn p k = E + vn p k + K by omega] at a
  have s := a.add z.symm
  exact (Mo.of_eq (by grind)).trans (s.trans (.of_eq (by grind)))
end PM
set_option Elab.async false
set_option linter.all false
set_option maxRecDepth 100000
set_option autoImplicit false
set_option exponentiation.threshold 20000
namespace PM
open PySem PySem.Spec L2 PL
open PyProof.Rows hiding St
theorem sms_front (f : Nat → Int) : ∀ M : Nat, sms f (M + 1) = f 0 + sms (fun i => f (i + 1)) M
  | 0 => rfl
  | M + 1 => by
    have ih := sms_front f M
    rw [show sms f (M + 1 + 1) = sms f (M + 1) + f (M + 1 + 1) from rfl, ih]
    show f 0 + sms (fun i => f (i + 1)) M + f (M + 1 + 1) = f 0 + (sms (fun i => f (i + 1)) M + f (M + 1 + 1))
    omega
theorem sms_add (f g : Nat → Int) : ∀ M : Nat, sms (fun i => f i + g i) M = sms f M + sms g M
  | 0 => rfl
  | M + 1 => by
    have ih := sms_add f g M
    show sms (fun i => f i + g i) M + (f (M + 1) + g (M + 1)) = sms f M + f (M + 1) + (sms g M + g (M + 1))
    omega
theorem sms_mul (c : Int) (f : Nat → Int) : ∀ M : Nat, sms (fun i => c * f i) M = c * sms f M
  | 0 => rfl
  | M + 1 => by
    have ih := sms_mul c f M
    show sms (fun i => c * f i) M + c * f (M + 1) = c * (sms f M + f (M + 1))
    rw [ih]; grind
theorem sms_ext {f g : Nat → Int} : ∀ M : Nat, (∀ i, i ≤ M → f i = g i) → sms f M = sms g M
  | 0, h => h 0 (Nat.le_refl _)
  | M + 1, h => by
    rw [sms, sms, sms_ext M fun i hi => h i (by omega), h (M + 1) (Nat.le_refl _)]
theorem sms_cong {W : Int} {f g : Nat → Int} : ∀ M : Nat, (∀ i, i ≤ M → Mo W (f i) (g i)) → Mo W (sms f M) (sms g M)
  | 0, h => h 0 (Nat.le_refl _)
  | M + 1, h => (sms_cong M fun i hi => h i (by omega)).add (h (M + 1) (Nat.le_refl _))
/-- a triangle of products, by rows and by columns -/
theorem tri (e f : Nat → Int) : ∀ N : Nat, sms (fun n => sms (fun i => e i * f (n - i)) n) N = sms (fun i => e i * sms f (N - i)) N
  | 0 => rfl
  | N + 1 => by
    have ih := tri e f N
    have e1 : sms (fun n => sms (fun i => e i * f (n - i)) n) (N + 1) = sms (fun n => sms (fun i => e i * f (n - i)) n) N + sms (fun i => e i * f (N + 1 - i)) (N + 1) := rfl
    have e2 : sms (fun i => e i * f (N + 1 - i)) (N + 1) = sms (fun i => e i * f (N + 1 - i)) N + e (N + 1) * f (N + 1 - (N + 1)) := rfl
    have e3 : sms (fun i => e i * sms f (N + 1 - i)) (N + 1) = sms (fun i => e i * sms f (N + 1 - i)) N + e (N + 1) * sms f (N + 1 - (N + 1)) := rfl
    have e4 : sms (fun i => e i * sms f (N + 1 - i)) N = sms (fun i => e i * sms f (N - i) + e i * f (N + 1 - i)) N := sms_ext N fun i hi => by
      rw [show N + 1 - i = (N - i) + 1 by omega, sms]; grind
    rw [e1, ih, e2, e3, e4, sms_add, Nat.sub_self]
    show _ = _ + e (N + 1) * f 0
    omega
theorem binom2 (y w : Int) : ∀ n M : Nat, n ≤ M → sms (fun i => cb n i * y ^ i * w ^ (M - i)) M = (y + w) ^ n * w ^ (M - n)
  | 0, M, _ => by
    cases M with
    | zero => show cb 0 0 * y ^ 0 * w ^ (0 - 0) = _; simp [cb_zero]
    | succ M =>
      rw [sms_front]
      have z : sms (fun i => cb 0 (i + 1) * y ^ (i + 1) * w ^ (M + 1 - (i + 1))) M = 0 := by
        have : sms (fun i => cb 0 (i + 1) * y ^ (i + 1) * w ^ (M + 1 - (i + 1))) M = sms (fun i => 0 * (0 : Int)) M := sms_ext M fun i _ => by rw [cb_big 0 (i + 1) (by omega)]; simp
        rw [this, sms_mul, Int.zero_mul]
      rw [z, cb_zero]; simp
  | n + 1, M, h => by
    obtain ⟨m, rfl⟩ : ∃ m, M = m + 1 := ⟨M - 1, by omega⟩
    have i1 := binom2 y w n (m + 1) (by omega)
    have i2 := binom2 y w n m (by omega)
    rw [sms_front] at i1 ⊢
    have e : sms (fun i => cb (n + 1) (i + 1) * y ^ (i + 1) * w ^ (m + 1 - (i + 1))) m = sms (fun i => cb n (i + 1) * y ^ (i + 1) * w ^ (m + 1 - (i + 1)) + y * (cb n i * y ^ i * w ^ (m - i))) m := sms_ext m fun i hi => by
      rw [cb_step, show m + 1 - (i + 1) = m - i by omega, Int.pow_succ]; grind
    rw [e, sms_add, sms_mul, i2]
    rw [cb_zero] at i1 ⊢
    rw [show m + 1 - n = (m - n) + 1 by omega, Int.pow_succ] at i1
    rw [show m + 1 - (n + 1) = m - n by omega, Int.pow_succ (y + w)]
    grind
theorem cb_fac : ∀ n k : Nat, k ≤ n → cb n k * fac k * fac (n - k) = fac n
  | n, 0, _ => by rw [cb_zero, fac, Nat.sub_zero]; omega
  | 0, k + 1, h => by omega
  | n + 1, k + 1, h => by
    have ih := cb_fac n k (by omega)
    have ab := cb_abs n k
    rw [show n + 1 - (k + 1) = n - k by omega, fac, fac, ← ih]
    grind
def Nr (p y : Int) : Prop := Mo (p ^ 1) y 0 ∧ (p = 2 → Mo (p ^ 2) y 0)
theorem Nr.add {p y w : Int} (h : Nr p y) (g : Nr p w) : Nr p (y + w) := by
  refine ⟨by have := h.1.add g.1; rwa [Int.add_zero] at this, fun e => by have := (h.2 e).add (g.2 e); rwa [Int.add_zero] at this⟩
theorem Nr.smul {p y : Int} (c : Int) (h : Nr p y) : Nr p (c * y) := by
  refine ⟨?_, fun e => ?_⟩
  · exact (Mo.of_eq (Int.mul_comm _ _)).trans (h.1.zero_mul c)
  · exact (Mo.of_eq (Int.mul_comm _ _)).trans ((h.2 e).zero_mul c)
theorem half {p y : Int} (hp : p ∈ primesL) (h : Nr p y) {E a i N : Nat} {e : Nat → Int} (he : ExQ p E y e N) (hi : i ≤ N) (ha : a ≤ E) (ha2 : a ≤ (i + 1) / 2) : Mo (p ^ a) (e i) 0 := by
  have hpb := primesL_le p hp
  by_cases i0 : i = 0
  · subst i0
    have : a = 0 := by omega
    subst this
    exact ⟨e 0, by simp⟩
  · have w := wf_le hpb.1 i (by omega)
    by_cases e2 : p = 2
    · exact ex_tail hp (he.low ha) (h.2 e2) hi (by omega)
    · refine ex_tail hp (he.low ha) h.1 hi ?_
      have w2 := wf_lt hpb.1 i (by omega)
      have : 2 * (wf p i : Int) ≤ (p - 1) * (wf p i : Int) := Int.mul_le_mul_of_nonneg_right (by omega) (by omega)
      omega
theorem wf_add {p : Int} (hp : p ∈ primesL) {n i : Nat} (hi : i ≤ n) : wf p i + wf p (n - i) ≤ wf p n := by
  have hpb := primesL_le p hp
  obtain ⟨a1, a2⟩ := mfc_spec hp i
  obtain ⟨b1, b2⟩ := mfc_spec hp (n - i)
  obtain ⟨c1, c2⟩ := mfc_spec hp n
  have cf := cb_fac n i hi
  rcases Nat.lt_or_ge (wf p n) (wf p i + wf p (n - i)) with g | g
  · exfalso
    obtain ⟨d, hd⟩ : ∃ d, wf p i + wf p (n - i) = wf p n + (d + 1) := ⟨wf p i + wf p (n - i) - wf p n - 1, by omega⟩
    have e : mfc p n * p ^ wf p n = cb n i * mfc p i * mfc p (n - i) * p ^ (d + 1) * p ^ wf p n := by
      rw [← c1, ← cf, a1, b1]
      have : p ^ wf p i * p ^ wf p (n - i) = p ^ wf p n * p ^ (d + 1) := by rw [← Int.pow_add, ← Int.pow_add, hd]
      grind
    have e2 := Int.eq_of_mul_eq_mul_right (Int.pow_ne_zero (show p ≠ 0 by omega)) e
    rw [e2, Int.pow_succ, ← Int.mul_assoc, Int.mul_emod_left] at c2
    exact c2 rfl
  · exact g
theorem cb_wf {p : Int} (hp : p ∈ primesL) {n i : Nat} (hi : i ≤ n) : Mo (p ^ (wf p n - (wf p i + wf p (n - i)))) (cb n i) 0 := by
  obtain ⟨a1, a2⟩ := mfc_spec hp i
  obtain ⟨b1, b2⟩ := mfc_spec hp (n - i)
  obtain ⟨c1, c2⟩ := mfc_spec hp n
  have cf := cb_fac n i hi
  have w := wf_add hp hi
  refine Mo.canc hp (prime_mulI hp a2 b2) (v := wf p i + wf p (n - i)) ?_
  rw [show wf p n - (wf p i + wf p (n - i)) + (wf p i + wf p (n - i)) = wf p n by omega, Int.mul_zero]
  refine Mo.zero (mfc p n) ?_
  have e : mfc p i * mfc p (n - i) * p ^ (wf p i + wf p (n - i)) * cb n i = cb n i * fac i * fac (n - i) := by rw [a1, b1, Int.pow_add]; grind
  rw [e, cf, c1, Int.mul_comm]
theorem nr_wf {p y : Int} (hp : p ∈ primesL) (h : Nr p y) (i : Nat) : Mo (p ^ wf p i) (y ^ i) 0 := by
  have hpb := primesL_le p hp
  have z := pow_mo0 h.1 i
  by_cases i0 : i = 0
  · subst i0; exact ⟨y ^ 0, by simp [wf]⟩
  · have w := wf_le hpb.1 i (by omega)
    exact z.low (by omega)
theorem conv {p y w : Int} (hp : p ∈ primesL) (hy : Nr p y) (hw : Nr p w) {E N : Nat} {e f : Nat → Int} (he : ExQ p E y e N) (hf : ExQ p E w f N) : ExQ p E (y + w) (fun n => sms (fun i => e i * f (n - i)) n) N := by
  intro n hn
  have b := binom2 y w n n (Nat.le_refl _)
  rw [Nat.sub_self, Int.pow_zero, Int.mul_one] at b
  rw [← b, ← sms_mul]
  refine sms_cong n fun i hi => ?_
  have cf := cb_fac n i hi
  have wa := wf_add hp hi
  have x1 := he i (by omega)
  have x2 := hf (n - i) (by omega)
  obtain ⟨b1, _⟩ := mfc_spec hp (n - i)
  have s1 := Mo.scaleP x1 (Mo.zero (m := p ^ wf p (n - i)) (mfc p (n - i) * f (n - i)) (show fac (n - i) * f (n - i) = _ by rw [b1]; grind))
  have s2 := Mo.scaleP x2 (nr_wf hp hy i)
  have s3 : Mo (p ^ (E + (wf p i + wf p (n - i)))) (fac i * e i * (fac (n - i) * f (n - i))) (y ^ i * w ^ (n - i)) := by
    rw [show E + wf p i + wf p (n - i) = E + (wf p i + wf p (n - i)) by omega] at s1
    rw [show E + wf p (n - i) + wf p i = E + (wf p i + wf p (n - i)) by omega] at s2
    exact s1.trans ((Mo.of_eq (Int.mul_comm _ _)).trans (s2.trans (.of_eq (Int.mul_comm _ _))))
  have s4 := Mo.scaleP s3 (cb_wf hp hi)
  rw [show E + (wf p i + wf p (n - i)) + (wf p n - (wf p i + wf p (n - i))) = E + wf p n by omega] at s4
  refine (Mo.of_eq ?_).trans (s4.trans (.of_eq (by grind)))
  rw [← cf]
  grind
def Ex (p : Int) (E : Nat) (y W : Int) : Prop := ∃ (e : Nat → Int), ExQ p E y e (2 * E + 1) ∧ Mo (p ^ E) W (sms e (2 * E + 1))
theorem exq_uniq {p y : Int} (hp : p ∈ primesL) {E N : Nat} {e f : Nat → Int} (he : ExQ p E y e N) (hf : ExQ p E y f N) : ∀ i, i ≤ N → Mo (p ^ E) (e i) (f i) := fun i hi => by
  obtain ⟨a1, a2⟩ := mfc_spec hp i
  refine Mo.canc hp a2 (v := wf p i) ?_
  rw [← a1]
  exact (he i hi).trans (hf i hi).symm
theorem Ex.uniq {p y W Z : Int} (hp : p ∈ primesL) {E : Nat} (h : Ex p E y W) (g : Ex p E y Z) : Mo (p ^ E) W Z := by
  obtain ⟨e, he, hW⟩ := h
  obtain ⟨f, hf, hZ⟩ := g
  exact hW.trans ((sms_cong _ fun i hi => exq_uniq hp he hf i hi).trans hZ.symm)
theorem Ex.low {p y W : Int} (hp : p ∈ primesL) (hy : Nr p y) {E F : Nat} (h : Ex p E y W) (hF : F ≤ E) : Ex p F y W := by
  obtain ⟨e, he, hW⟩ := h
  refine ⟨e, fun k hk => (he.low hF) k (by omega), (hW.low hF).trans ?_⟩
  exact sms_tail _ (by omega) fun k k1 k2 => half hp hy he k2 hF (by omega)
theorem Ex.add {p y w W Z : Int} (hp : p ∈ primesL) (hy : Nr p y) (hw : Nr p w) {E : Nat} (h : Ex p E y W) (g : Ex p E w Z) : Ex p E (y + w) (W * Z) := by
  obtain ⟨e, he, hW⟩ := h
  obtain ⟨f, hf, hZ⟩ := g
  obtain ⟨N, hN⟩ : ∃ N, N = 2 * E + 1 := ⟨_, rfl⟩
  rw [← hN] at he hW hf hZ
  refine ⟨_, by rw [← hN]; exact conv hp hy hw he hf, ?_⟩
  rw [← hN, tri]
  have s : Mo (p ^ E) (sms e N * sms f N) (sms (fun i => e i * sms f (N - i)) N) := by
    rw [Int.mul_comm, ← sms_mul]
    refine sms_cong N fun i hi => ?_
    rw [Int.mul_comm]
    obtain ⟨a, ha⟩ : ∃ a, a = min E ((i + 1) / 2) := ⟨_, rfl⟩
    have ea := half hp hy he hi (show a ≤ E by omega) (by omega)
    have ft : Mo (p ^ (E - a)) (sms f N) (sms f (N - i)) := sms_tail N (by omega) fun k k1 k2 => half hp hw hf k2 (by omega) (by omega)
    have t := Mo.scaleP ft ea
    rw [show E - a + a = E by omega] at t
    exact (Mo.of_eq (Int.mul_comm _ _)).trans (t.trans (.of_eq (Int.mul_comm _ _)))
  exact (hW.mul hZ).trans s
theorem ex_zero (p : Int) (E : Nat) : Ex p E 0 1 := by
  refine ⟨fun k => if k = 0 then 1 else 0, fun k hk => ?_, ?_⟩
  · by_cases k0 : k = 0
    · subst k0; exact .of_eq (by simp [fac])
    · refine .of_eq ?_
      show fac k * (if k = 0 then 1 else 0) = 0 ^ k
      rw [if_neg k0, Int.mul_zero, Int.zero_pow (by omega)]
  · have : ∀ M, sms (fun k => if k = 0 then (1 : Int) else 0) M = 1 := fun M => by
      induction M with
      | zero => rfl
      | succ M ih => rw [sms, ih]; simp
    rw [this]; exact .refl _ _
theorem Ex.pow {p y W : Int} (hp : p ∈ primesL) (hy : Nr p y) {E : Nat} (h : Ex p E y W) : ∀ n : Nat, Ex p E (n * y) (W ^ n)
  | 0 => by rw [Int.pow_zero]; simpa using ex_zero p E
  | n + 1 => by
    have ih := (Ex.pow hp hy h n).add hp (hy.smul n) hy h
    rw [Int.pow_succ]
    have e : ((n + 1 : Nat) : Int) * y = (n : Int) * y + y := by rw [show ((n + 1 : Nat) : Int) = (n : Int) + 1 by omega]; grind
    rw [e]
    exact ih
theorem invN {p m : Int} (hp : p ∈ primesL) (hm : m % p ≠ 0) : ∀ n : Nat, ∃ t : Int, Mo (p ^ n) (t * m) 1
  | 0 => ⟨0, ⟨-1, by simp⟩⟩
  | n + 1 => by
    have hpb := primesL_le p hp
    by_cases n0 : n = 0
    · subst n0
      obtain ⟨z, _, _, _, h⟩ := f_trn m (p ^ 1) (Int.pow_pos (by omega)) (by rw [Int.pow_succ, Int.pow_zero]; omega) (prime_gcd hp hm 1)
      exact ⟨z, h⟩
    · obtain ⟨t, ht⟩ := invN hp hm n
      refine ⟨t * (2 - t * m), ?_⟩
      obtain ⟨z, hz⟩ := ht
      have e : t * (2 - t * m) * m = 1 - (t * m - 1) * (t * m - 1) := by grind
      have d : t * m - 1 = p ^ n * z := by omega
      rw [e, d]
      obtain ⟨k, hk⟩ : ∃ k, n = k + 1 := ⟨n - 1, by omega⟩
      refine ⟨-(z * z * p ^ k), ?_⟩
      rw [hk, Int.pow_succ, Int.pow_succ]
      grind
theorem ex_ex {p y : Int} (hp : p ∈ primesL) (hy : Nr p y) (E : Nat) : ∃ W, Ex p E y W := by
  have h : ∀ k : Nat, ∃ e : Int, Mo (p ^ (E + wf p k)) (fac k * e) (y ^ k) := fun k => by
    obtain ⟨a1, a2⟩ := mfc_spec hp k
    obtain ⟨t, z, hz⟩ := invN hp a2 E
    obtain ⟨Y, hY⟩ := nr_wf hp hy k
    rw [Int.zero_add] at hY
    refine ⟨Y * t, z * Y, ?_⟩
    have : fac k * (Y * t) = p ^ wf p k * Y * (t * mfc p k) := by rw [a1]; grind
    rw [this, hz, hY, Int.pow_add]
    grind
  exact ⟨_, fun k => Classical.choose (h k), fun k _ => Classical.choose_spec (h k), .refl _ _⟩
theorem ex_two {p y : Int} (hp : p ∈ primesL) (hy : Nr p y) {E K : Nat} (hK : E ≤ K) : Ex p (E + K) (p ^ K * y) (1 + p ^ K * y) := by
  have hpb := primesL_le p hp
  refine ⟨fun k => if k = 0 then 1 else if k = 1 then p ^ K * y else 0, fun k hk => ?_, ?_⟩
  · show Mo _ (fac k * (if k = 0 then 1 else if k = 1 then p ^ K * y else 0)) _
    by_cases k0 : k = 0
    · subst k0; exact .of_eq (by simp [fac])
    · rw [if_neg k0]
      by_cases k1 : k = 1
      · subst k1; exact .of_eq (by simp [fac, Int.pow_succ])
      · rw [if_neg k1, Int.mul_zero]
        have w := wf_le hpb.1 k (by omega)
        have b : Mo (p ^ (K + 1)) (p ^ K * y) 0 := (Mo.of_eq (Int.mul_comm _ _)).trans (((Mo.zeroP hy.1 (Mo.zero (m := p ^ K) 1 (by rw [Int.mul_one]))).low (by omega)))
        have z := pow_mo0 b k
        refine (z.low ?_).symm
        have : 2 * K ≤ k * K := Nat.mul_le_mul_right K (by omega)
        rw [Nat.add_mul, Nat.mul_comm K k]
        omega
  · have : ∀ M, sms (fun k => if k = 0 then (1 : Int) else if k = 1 then p ^ K * y else 0) (M + 1) = 1 + p ^ K * y := fun M => by
      induction M with
      | zero => rfl
      | succ M ih => rw [sms, ih]; simp
    rw [this]; exact .refl _ _
theorem Ex.lg {p y W : Int} (hp : p ∈ primesL) (hy : Nr p y) {E : Nat} (hE : 1 ≤ E) (h : Ex p E y W) : Lg p E (W - 1) y := by
  have hpb := primesL_le p hp
  refine ⟨E, fun K hK => ?_⟩
  obtain ⟨Z, hZ⟩ := ex_ex hp hy (E + K)
  have ZW := (hZ.low hp hy (show E ≤ E + K by omega)).uniq hp h
  have P := hZ.pow hp hy (p.toNat ^ K)
  rw [show ((p.toNat ^ K : Nat) : Int) = p ^ K by rw [Int.natCast_pow, show ((p.toNat : Nat) : Int) = p by omega]] at P
  have T := ex_two hp hy (E := E) hK
  have U := P.uniq hp T
  have S := pow_steps hpb.1 hE ZW K
  have V := S.symm.trans U
  have R := V.symm.sub (Mo.refl _ 1)
  rw [show 1 + (W - 1) = W by omega]
  exact (Mo.of_eq (by omega)).trans R
theorem Lg.inj {p x y T : Int} (hp : p ∈ primesL) (hx : Nr p x) (hy : Nr p y) {E : Nat} (h : Lg p E x T) (g : Lg p E y T) : Mo (p ^ E) x y := by
  have hpb := primesL_le p hp
  obtain ⟨K0, h⟩ := h
  obtain ⟨K1, g⟩ := g
  have e := (h (K0 + K1) (by omega)).symm.trans (g (K0 + K1) (by omega))
  obtain ⟨K, hK⟩ : ∃ K, K = K0 + K1 := ⟨_, rfl⟩
  rw [← hK] at e
  by_cases d0 : x - y = 0
  · exact .of_eq (by omega)
  obtain ⟨u, j, e1, e2, _⟩ := vp_spec hpb.1 d0
  rcases Nat.lt_or_ge j E with jE | jE
  · exfalso
    have near : ∀ s : Nat, Mo (p ^ s) (x - y) 0 → s ≤ j := fun s hs => by
      rcases Nat.lt_or_ge j s with g | g
      · exfalso
        obtain ⟨z, hz⟩ := hs
        rw [Int.zero_add, e1] at hz
        obtain ⟨d, hd⟩ : ∃ d, s = j + (d + 1) := ⟨s - j - 1, by omega⟩
        rw [hd, Int.pow_add] at hz
        have pj : p ^ j ≠ 0 := Int.pow_ne_zero (by omega)
        have : u = p ^ (d + 1) * z := Int.eq_of_mul_eq_mul_right pj (by rw [hz]; grind)
        rw [this, Int.pow_succ, Int.mul_assoc, Int.mul_comm p z, ← Int.mul_assoc, Int.mul_emod_left] at e2
        exact e2 rfl
      · exact g
    have j1 := near 1 (by have := hx.1.sub hy.1; rwa [Int.sub_self] at this)
    have j2 : p = 2 → 2 ≤ j := fun q => near 2 (by have := (hx.2 q).sub (hy.2 q); rwa [Int.sub_self] at this)
    have B1 : (1 + y) % p ≠ 0 := by
      obtain ⟨z, hz⟩ := hy.1
      rw [hz, Int.pow_succ, Int.pow_zero, Int.zero_add, Int.one_mul, Int.add_mul_emod_self_left, Int.emod_eq_of_lt (by omega) (by omega)]
      decide
    obtain ⟨y', q1, q2⟩ := lte_t hp B1 j u j1 j2 K
    have xe : 1 + x = 1 + y + p ^ j * u := by rw [Int.mul_comm]; omega
    rw [xe, q1] at e
    obtain ⟨z, hz⟩ := e
    have f : p ^ (j + K) * y' = p ^ (E + K) * z := by omega
    obtain ⟨d, hd⟩ : ∃ d, E + K = (j + K) + (d + 1) := ⟨E - j - 1, by omega⟩
    rw [hd, Int.pow_add p (j + K) (d + 1)] at f
    have pj : p ^ (j + K) ≠ 0 := Int.pow_ne_zero (by omega)
    have : y' = p ^ (d + 1) * z := Int.eq_of_mul_eq_mul_left pj (by rw [f]; grind)
    have q3 := q2 e2
    rw [this, Int.pow_succ, Int.mul_assoc, Int.mul_comm p z, ← Int.mul_assoc, Int.mul_emod_left] at q3
    exact q3 rfl
  · obtain ⟨d, rfl⟩ : ∃ d, j = E + d := ⟨j - E, by omega⟩
    refine ⟨u * p ^ d, ?_⟩
    rw [Int.pow_add] at e1
    have : u * (p ^ E * p ^ d) = p ^ E * (u * p ^ d) := by grind
    omega
theorem nr_of {p x : Int} {s : Nat} (hs : 1 ≤ s) (s2 : p = 2 → s = 2) (h : Mo (p ^ s) x 0) : Nr p x := ⟨h.low hs, fun e => h.low (by have := s2 e; omega)⟩
theorem log_fact {p x : Int} (hp : p ∈ primesL) {n s : Nat} (h0 : 0 ≤ x) (h1 : x < p ^ n) (hs : 1 ≤ s) (s2 : p = 2 → s = 2) (hn : s ≤ n) (n4 : n ≤ 400) (hx : Mo (p ^ s) x 0) :
    ∃ T : Int, F_log_of [leftV p 0 (digs p (x + 1) n)] = .ok (leftV p (lead (digs p T n)) (strip (digs p T n))) ∧ Lg p n x T ∧ Mo (p ^ s) T 0 ∧ lead (digs p (x + 1) n) = 0 ∧ strip (digs p (x + 1) n) = digs p (x + 1) n := by
  have hpb := primesL_le p hp
  obtain ⟨k1, k2, k3⟩ := near_digs hpb.1 h0 h1 (by omega) (hx.low hs) (fun e => ⟨by have := s2 e; omega, hx.low (by have := s2 e; omega)⟩)
  obtain ⟨z1, z2⟩ := lead_nz (ds := digs p (x + 1) n) (by rw [k1]; simp)
  obtain ⟨LG, LQ⟩ := f_log_of hp (digs_Dg hpb.1 n (x + 1)) (by rw [digs_len]; omega) k1 k2
  rw [digs_len, k3, show x + 1 - 1 = x by omega] at LG LQ
  exact ⟨_, LG, lg_of hp n4 (hx.low hs) LQ, LQ.near hp ⟨hs, hn⟩ hx, z1, z2⟩
theorem exp_fact {p y : Int} (hp : p ∈ primesL) {n s : Nat} (h0 : 0 ≤ y) (h1 : y < p ^ n) (hs : 1 ≤ s) (s2 : p = 2 → s = 2) (hn : s ≤ n) (n4 : n ≤ 400) (hy : Mo (p ^ s) y 0) :
    ∃ W : Int, F_exp_of [leftV p (lead (digs p y n)) (strip (digs p y n))] = .ok (leftV p 0 (digs p W n)) ∧ Lg p n (W - 1) y ∧ Mo (p ^ s) W 1 ∧ 1 ≤ W ∧ W < p ^ n := by
  have hpb := primesL_le p hp
  obtain ⟨ld, hld⟩ : ∃ q, q = lead (digs p y n) := ⟨_, rfl⟩
  obtain ⟨es, hes⟩ : ∃ q, q = strip (digs p y n) := ⟨_, rfl⟩
  have sl := strip_len (digs p y n)
  have le := lead_le (digs p y n)
  have dl := digs_len p n y
  have tv := told_val (T := y) hpb.1 n
  have lg := lead_ge hpb.1 hy hn
  have ed : Dg p es := by rw [hes]; exact strip_Dg (digs_Dg hpb.1 _ _)
  rw [← hld, ← hes] at tv sl ⊢
  rw [← hld] at lg le
  rw [Int.emod_eq_of_lt h0 h1] at tv
  have EX := f_exp_of hp ed (s := ld) (by omega) (by omega) (fun e => by have := s2 e; omega)
  rw [show ld + es.length = n by omega] at EX
  have EQ := ee_spec hp (n := n) (s := ld) (by omega) (by omega) (U p es) (2 * n + 1)
  rw [tv] at EQ
  obtain ⟨S, hS⟩ : ∃ S, S = sms (ee p n (U p es) ld) (2 * n + 1) := ⟨_, rfl⟩
  rw [← hS] at EX
  have X : Ex p n y S := ⟨_, EQ, .of_eq hS⟩
  have N1 : Mo (p ^ s) S 1 := by rw [hS]; exact EQ.near hp (by simp [ee]) ⟨hs, hn⟩ hy
  have P0 : 0 < p ^ n := Int.pow_pos (by omega)
  obtain ⟨W, hW⟩ : ∃ W, W = S % p ^ n := ⟨_, rfl⟩
  have WS : Mo (p ^ n) W S := by rw [hW]; exact Mo.emod _ _
  have W0 : 0 ≤ W := by rw [hW]; exact Int.emod_nonneg _ (by omega)
  have W1 : Mo (p ^ s) W 1 := (WS.low hn).trans N1
  have wh : W % p = 1 := by
    have := (W1.low (show 1 ≤ s by omega)).eq
    rw [Int.pow_succ, Int.pow_zero, Int.one_mul] at this
    rw [this]; exact Int.emod_eq_of_lt (by omega) (by omega)
  obtain ⟨z1, z2⟩ := lead_nz (ds := digs p W n) (by rw [digs_head p _ (by omega), wh]; simp)
  rw [← digs_mo hpb.1 n WS, z1, z2] at EX
  refine ⟨W, EX, ?_, W1, ?_, by rw [hW]; exact Int.emod_lt_of_pos _ P0⟩
  · exact (X.lg hp (nr_of hs s2 hy) (by omega)).congr hpb.1 (by omega) (WS.symm.sub (Mo.refl _ 1))
  · rcases Int.lt_or_le W 1 with g | g
    · have : W = 0 := by omega
      rw [this] at wh; simp at wh
    · exact g
end PM
set_option Elab.async false
set_option linter.all false
set_option maxRecDepth 100000
set_option autoImplicit false
namespace K85
open PySem PySem.Spec L2 PL PM
open PyProof.Rows hiding St
noncomputable def D__law_cell_at : Rho → Out := (bSeq (sIf (tB1 (e2 ltP (eVo 1) (eD lenP (aCons (eVo 0) aNil)))) (bSeq (sRet (e2 ixP (eVo 0) (eVo 1))) bNil) bNil) (bSeq (sRet (eC (.int 0))) bNil))
noncomputable def F__law_cell_at : List PV → R PV := runF 2 D__law_cell_at
noncomputable def D__law_whole : Rho → Out := (bSeq (sRet (eAn (e1 (isiP "int") (eVo 0)) (e1 notP (e1 (isiP "bool") (eVo 0))))) bNil)
noncomputable def F__law_whole : List PV → R PV := runF 1 D__law_whole
noncomputable def D__law_prime : Rho → Out := (bSeq (sSet 1 (eD lstP (aCons (eC (.int 2)) (aCons (eC (.int 3)) (aCons (eC (.int 5)) (aCons (eC (.int 7)) (aCons (eC (.int 2)) (aCons (eC (.int 3)) (aCons (eC (.int 5)) (aCons (eC (.int 11)) (aCons (eC (.int 13)) (aCons (eC (.int 17)) (aCons (eC (.int 19)) (aCons (eC (.int 23)) (aCons (eC (.int 29)) (aCons (eC (.int 31)) (aCons (eC (.int 37)) (aCons (eC (.int 41)) (aCons (eC (.int 43)) (aCons (eC (.int 47)) (aCons (eC (.int 53)) (aCons (eC (.int 59)) (aCons (eC (.int 61)) (aCons (eC (.int 67)) (aCons (eC (.int 71)) (aCons (eC (.int 73)) (aCons (eC (.int 79)) (aCons (eC (.int 83)) (aCons (eC (.int 89)) (aCons (eC (.int 97)) aNil)))))))))))))))))))))))))))))) (bSeq (sRet (e2 ixP (eVo 1) (e2 modP (eVo 0) (eD lenP (aCons (eVo 1) aNil))))) bNil))
noncomputable def F__law_prime : List PV → R PV := runF 2 D__law_prime
noncomputable def D__law_power : Rho → Out := (bSeq (sSet 2 (eC (.int 1))) (bSeq (sFor (iR rng1 (aCons (eVo 1) aNil)) (gN 3) (bSeq (sSet 2 (e2 mulP (eVo 2) (eVo 0))) bNil)) (bSeq (sRet (eV 2)) bNil)))
noncomputable def F__law_power : List PV → R PV := runF 4 D__law_power
noncomputable def D__law_is_left : Rho → Out := (bSeq (sIf (tOr' (tNt (tB1 (e1 (isiP "tuple") (eVo 0)))) (tOr' (tB1 (e2 neP (eD lenP (aCons (eVo 0) aNil)) (eC (.int 3)))) (tOr' (tNt (tB1 (eD F__law_whole (aCons (e2 ixP (eVo 0) (eC (.int 0))) aNil)))) (tB1 (e2 neP (e2 ixP (eVo 0) (eC (.int 0))) (eVo 1)))))) (bSeq (sRet (eC (.bl false))) bNil) bNil) (bSeq (sIf (tOr' (tNt (tB1 (eD F__law_whole (aCons (e2 ixP (eVo 0) (eC (.int 1))) aNil)))) (tOr' (tNt (tB1 (e1 (isiP "tuple") (e2 ixP (eVo 0) (eC (.int 2)))))) (tAn (tB1 (e2 neP (e2 ixP (eVo 0) (eC (.int 2))) (eD tupP aNil))) (tB1 (e2 eqP (e2 ixP (e2 ixP (eVo 0) (eC (.int 2))) (eC (.int 0))) (eC (.int 0))))))) (bSeq (sRet (eC (.bl false))) bNil) bNil) (bSeq (sRet (eD allP (aCons (eLc [2] (iS (e2 ixP (eVo 0) (eC (.int 2)))) (gN 2) cYes (eAn (eD F__law_whole (aCons (eV 2) aNil)) (eChain leP ltP (eC (.int 0)) (eVo 2) (eVo 1)))) aNil))) bNil)))
noncomputable def F__law_is_left : List PV → R PV := runF 3 D__law_is_left
noncomputable def D__law_unit : Rho → Out := (bSeq (sSet 1 (eC (.int 0))) (bSeq (sFor (iRv (e2 ixP (eVo 0) (eC (.int 2)))) (gN 2) (bSeq (sSet 1 (e2 addP (e2 mulP (eVo 1) (e2 ixP (eVo 0) (eC (.int 0)))) (eVo 2))) bNil)) (bSeq (sRet (eV 1)) bNil)))
noncomputable def F__law_unit : List PV → R PV := runF 3 D__law_unit
noncomputable def D__law_of_whole : Rho → Out := (bSeq (sSetO 4 (eD lstP aNil)) (bSeq (sFor (iR rng1 (aCons (eVo 3) aNil)) (gN 5) (bSeq (sMut 4 appP (e2 modP (eVo 2) (eVo 0))) (bSeq (sSet 2 (e2 fdivP (eVo 2) (eVo 0))) bNil))) (bSeq (sWh (tAn (tB1 (e2 neP (eVo 4) (eD lstP aNil))) (tB1 (e2 eqP (e2 ixP (eVo 4) (eC (.int 0))) (eC (.int 0))))) (bSeq (sSetO 4 (eSl slL (eVo 4) (oSome (eC (.int 1))) oNone)) (bSeq (sSet 1 (e2 addP (eVo 1) (eC (.int 1)))) bNil))) (bSeq (sRet (eD tupP (aCons (eV 0) (aCons (eV 1) (aCons (eD tupleP (aCons (eVo 4) aNil)) aNil))))) bNil))))
noncomputable def F__law_of_whole : List PV → R PV := runF 6 D__law_of_whole
noncomputable def D__law_end : Rho → Out := (bSeq (sRet (e2 addP (eVo 1) (e2 modP (e2 fdivP (eVo 0) (eC (.int 8))) (e2 ixP (eD lstP (aCons (e2 subP (eC (.int 31)) (eVo 1)) (aCons (e2 subP (eC (.int 201)) (eVo 1)) aNil))) (eD intP1 (aCons (e2 eqP (e2 modP (eVo 0) (eC (.int 8))) (eC (.int 5))) aNil)))))) bNil)
noncomputable def F__law_end : List PV → R PV := runF 2 D__law_end
noncomputable def D__law_filled : Rho → Out := (bSeq (sSet 3 (eC (.int 1))) (bSeq (sWh (tB1 (e2 leP (eVo 3) (eVo 0))) (bSeq (sSet 3 (e2 mulP (eVo 3) (eVo 1))) bNil)) (bSeq (sRet (e2 addP (eVo 0) (e2 mulP (eVo 3) (eVo 2)))) bNil)))
noncomputable def F__law_filled : List PV → R PV := runF 4 D__law_filled
noncomputable def D__law_number : Rho → Out := (bSeq (sSet 6 (e2 addP (eD absP (aCons (e2 addP (e2 mulP (eVo 2) (e2 powP (eC (.int 982451653)) (eC (.int 5)))) (e2 mulP (e2 fdivP (eVo 3) (eC (.int 3))) (e2 powP (eC (.int 48271)) (eC (.int 11))))) aNil)) (e2 mulP (e2 fdivP (eD F__law_power (aCons (eV 0) (aCons (eV 4) aNil))) (eC (.int 7))) (e2 modP (eVo 3) (eC (.int 3)))))) (bSeq (sIf (tB1 (eV 5)) (bSeq (sSet 6 (eD F__law_filled (aCons (eD absP (aCons (eVo 2) aNil)) (aCons (eV 0) (aCons (eV 6) aNil))))) bNil) bNil) (bSeq (sRet (e2 modP (e2 mulP (eVo 6) (eD F__law_power (aCons (eV 0) (aCons (eV 1) aNil)))) (eD F__law_power (aCons (eV 0) (aCons (eV 4) aNil))))) bNil)))
noncomputable def F__law_number : List PV → R PV := runF 7 D__law_number
noncomputable def D__law_value : Rho → Out := (bSeq (sRet (e2 mulP (eD F__law_unit (aCons (eV 0) aNil)) (eD F__law_power (aCons (e2 ixP (eVo 0) (eC (.int 0))) (aCons (e2 ixP (eVo 0) (eC (.int 1))) aNil))))) bNil)
noncomputable def F__law_value : List PV → R PV := runF 1 D__law_value
noncomputable def D_law : Rho → Out := (bSeq (sSet 1 (eD F__law_prime (aCons (eD F__law_cell_at (aCons (eV 0) (aCons (eC (.int 0)) aNil))) aNil))) (bSeq (sSet 2 (e2 addP (eC (.int 1)) (eD intP1 (aCons (e2 eqP (eVo 1) (eC (.int 2))) aNil)))) (bSeq (sSet 3 (eLc [14] (iR rng2 (aCons (eC (.int 1)) (aCons (eC (.int 13)) aNil))) (gN 14) cYes (eD F__law_cell_at (aCons (eV 0) (aCons (eV 14) aNil))))) (bSeq (sSet 4 (eLc [14] (iR rng1 (aCons (eC (.int 4)) aNil)) (gN 14) cYes (eD F__law_end (aCons (e2 ixP (eVo 3) (e2 mulP (eC (.int 3)) (eVo 14))) (aCons (eV 2) aNil))))) (bSeq (sSet 5 (e2 eqP (e2 modP (e2 fdivP (eD F__law_cell_at (aCons (eV 0) (aCons (eC (.int 0)) aNil))) (eC (.int 28))) (eC (.int 2))) (eC (.int 1)))) (bSeq (sSet 6 (eLc [14] (iR rng1 (aCons (eC (.int 4)) aNil)) (gN 14) cYes (eD F__law_number (aCons (eV 1) (aCons (eV 2) (aCons (e2 ixP (eVo 3) (e2 addP (e2 mulP (eC (.int 3)) (eVo 14)) (eC (.int 1)))) (aCons (e2 ixP (eVo 3) (e2 addP (e2 mulP (eC (.int 3)) (eVo 14)) (eC (.int 2)))) (aCons (e2 ixP (eVo 4) (eVo 14)) (aCons (eV 5) aNil))))))))) (bSeq (sSet 7 (eLc [14] (iR rng1 (aCons (eC (.int 2)) aNil)) (gN 14) cYes (eD F__law_of_whole (aCons (eV 1) (aCons (eC (.int 0)) (aCons (e2 addP (e2 ixP (eVo 6) (eVo 14)) (eC (.int 1))) (aCons (e2 ixP (eVo 4) (eVo 14)) aNil))))))) (bSeq (sSet 8 (eLc [14] (iR rng2 (aCons (eC (.int 2)) (aCons (eC (.int 4)) aNil))) (gN 14) cYes (eD F__law_of_whole (aCons (eV 1) (aCons (eC (.int 0)) (aCons (e2 ixP (eVo 6) (eVo 14)) (aCons (e2 ixP (eVo 4) (eVo 14)) aNil))))))) (bSeq (sSet 9 (eLc [15] (iS (eV 7)) (gN 15) cYes (eD F_log_of (aCons (eV 15) aNil)))) (bSeq (sSet 10 (eLc [15] (iS (eV 8)) (gN 15) cYes (eD F_exp_of (aCons (eV 15) aNil)))) (bSeq (sIf (tNt (tB1 (eD allP (aCons (eLc [15] (iS (e2 addP (eVo 9) (eVo 10))) (gN 15) cYes (eD F__law_is_left (aCons (eV 15) (aCons (eV 1) aNil)))) aNil)))) (bSeq (sRet (eC (.bl false))) bNil) bNil) (bSeq (sIf (tOr' (tB1 (e2 neP (eLc [15] (iS (eV 9)) (gN 15) cYes (eD F_exp_of (aCons (eV 15) aNil))) (eVo 7))) (tB1 (e2 neP (eLc [15] (iS (eV 10)) (gN 15) cYes (eD F_log_of (aCons (eV 15) aNil))) (eVo 8)))) (bSeq (sRet (eC (.bl false))) bNil) bNil) (bSeq (sSet 11 (eD minPL (aCons (eSl slP (eVo 4) oNone (oSome (eC (.int 2)))) aNil))) (bSeq (sSet 12 (eD F__law_of_whole (aCons (eV 1) (aCons (eC (.int 0)) (aCons (e2 mulP (e2 addP (e2 ixP (eVo 6) (eC (.int 0))) (eC (.int 1))) (e2 addP (e2 ixP (eVo 6) (eC (.int 1))) (eC (.int 1)))) (aCons (eV 11) aNil)))))) (bSeq (sIf (tB1 (e2 neP (eD F_log_of (aCons (eV 12) aNil)) (eD F__law_of_whole (aCons (eV 1) (aCons (eC (.int 0)) (aCons (e2 addP (eD F__law_value (aCons (e2 ixP (eVo 9) (eC (.int 0))) aNil)) (eD F__law_value (aCons (e2 ixP (eVo 9) (eC (.int 1))) aNil))) (aCons (eV 11) aNil))))))) (bSeq (sRet (eC (.bl false))) bNil) bNil) (bSeq (sSet 11 (eD minPL (aCons (eSl slP (eVo 4) (oSome (eC (.int 2))) oNone) aNil))) (bSeq (sSet 13 (eD F__law_of_whole (aCons (eV 1) (aCons (eC (.int 0)) (aCons (e2 addP (e2 ixP (eVo 6) (eC (.int 2))) (e2 ixP (eVo 6) (eC (.int 3)))) (aCons (eV 11) aNil)))))) (bSeq (sRet (e2 eqP (eD F_exp_of (aCons (eV 13) aNil)) (eD F__law_of_whole (aCons (eV 1) (aCons (eC (.int 0)) (aCons (e2 mulP (eD F__law_value (aCons (e2 ixP (eVo 10) (eC (.int 0))) aNil)) (eD F__law_value (aCons (e2 ixP (eVo 10) (eC (.int 1))) aNil))) (aCons (eV 11) aNil))))))) bNil))))))))))))))))))
noncomputable def F_law : List PV → R PV := runF 16 D_law
end K85
set_option Elab.async false
set_option linter.all false
set_option maxRecDepth 100000
set_option autoImplicit false
set_option exponentiation.threshold 20000
set_option maxHeartbeats 0
namespace K85
open PySem PySem.Spec L2 PL PM
open PyProof.Rows hiding St
theorem f_cell (ns : List Int) (k : Int) (h : 0 ≤ k) : F__law_cell_at [.frz (ns.map PV.int), .int k] = .ok (.int (nth ns k)) := by
  show (D__law_cell_at [.val (.frz (ns.map PV.int)), .val (.int k)]).res = _
  by_cases hk : k < ns.length
  · simp [D__law_cell_at, hk, ixP_intsF h hk]
  · have : ns[k.toNat]? = none := List.getElem?_eq_none (by omega)
    simp [D__law_cell_at, hk, nth, this]
theorem f_whole (p : PV) : F__law_whole [p] = .ok (.bl (isW p)) := by
  show (D__law_whole [.val p]).res = _
  simp [D__law_whole, whole_eq]
def primes28 : List Int := [2, 3, 5, 7, 2, 3, 5, 11, 13, 17, 19, 23, 29, 31, 37, 41, 43, 47, 53, 59, 61, 67, 71, 73, 79, 83, 89, 97]
theorem f_prime (c : Int) : F__law_prime [.int c] = .ok (.int (nth primes28 (c % 28))) := by
  refine (runF_eq (n := 2) (u := D__law_prime)).trans ?_
  show (D__law_prime [.val (.int c), .un]).res = _
  have ll : ∀ l : List PV, l.length ≤ 100 → lstP l = .ok (.lst l) := fun l h => lstP_ok (by omega)
  have e : lstP [.int 2, .int 3, .int 5, .int 7, .int 2, .int 3, .int 5, .int 11, .int 13, .int 17, .int 19, .int 23, .int 29, .int 31, .int 37, .int 41, .int 43, .int 47, .int 53, .int 59, .int 61, .int 67, .int 71, .int 73, .int 79, .int 83, .int 89, .int 97] = .ok (.lst (primes28.map PV.int)) := ll _ (by simp only [List.length_cons, List.length_nil]; omega)
  have m := modP_pos (a := c) (b := 28) (by omega)
  have n : lenP [.lst (primes28.map PV.int)] = .ok (.int 28) := by simp [primes28]
  have h28 : primes28.length = 28 := rfl
  have i : ixP (.lst (primes28.map PV.int)) (.int (c % 28)) = .ok (.int (nth primes28 (c % 28))) := ixP_ints (ns := primes28) (by omega) (by omega)
  unfold D__law_prime
  refine stp (.lst (primes28.map PV.int)) (by simp only [eD_eq, aCons_eq, aNil_eq, eC_eq, bind1]; exact e) ?_
  simp only [List.set_cons_succ, List.set_cons_zero]
  simp only [bSeq_eq, sRet_eq, e2_eq, eD_eq, aCons_eq, aNil_eq, eVo0, eVos, bind1, n, m, i, st_ok, then_ret, res_ret]
theorem prime_in (c : Int) : nth primes28 (c % 28) ∈ primesL := by
  have h28 : primes28.length = 28 := rfl
  have h : ∀ x ∈ primes28, x ∈ primesL := by decide
  exact h _ (nth_mem (by omega) (by omega))
theorem f_power_l (p t : Int) (hp : p.natAbs < 2 ^ 60) (h0 : 0 ≤ t) (h1 : t ≤ 10000) : F__law_power [.int p, .int t] = .ok (.int (p ^ t.toNat)) := by
  refine (runF_eq (n := 4) (u := D__law_power)).trans ?_
  show (D__law_power [.val (.int p), .val (.int t), .un, .un]).res = _
  have hl := mul_loop (i := 2) (j := 0) (a := 3) (ρ := [.val (.int p), .val (.int t), .val (.int 1), .un]) (x := 1) (y := p) t.toNat rfl rfl (by omega) (by omega) (by omega) (by simp) (by decide) hp (by omega)
  have hr : rng1 [.int t] = .ok (rngL 0 t.toNat) := rng1_sm (by omega) (by omega)
  simp [D__law_power, hr, hl]
theorem f_is_left_l (p e : Int) (ds : List Int) (n : Nat) (h : Lf p ds n) (hn : n ≤ 1000) : F__law_is_left [leftV p e ds, .int p] = .ok (.bl true) := by
  refine (runF_eq (n := 3) (u := D__law_is_left)).trans ?_
  show (D__law_is_left [.val (leftV p e ds), .val (.int p), .un]).res = _
  obtain ⟨x0, x1, x2⟩ := ixT p e ds
  have hl := h.len
  have t : isT (leftV p e ds) = true := rfl
  have l3 : lenP [leftV p e ds] = .ok (.int 3) := by simp [leftV]
  have t0 : tupP [] = .ok (.tup []) := tupP_ok (by simp)
  have t2 : isT (.tup (ds.map PV.int)) = true := rfl
  have hd : ds ≠ [] → ∃ d : Int, ixP (.tup (ds.map PV.int)) (.int 0) = .ok (.int d) ∧ d ≠ 0 := fun hd => by
    cases ds with
    | nil => exact absurd rfl hd
    | cons d r => exact ⟨d, by simp, by simpa using h.hd⟩
  have go : lcGo (gN 2) cYes (eAn (eD F__law_whole (aCons (eV 2) aNil)) (eChain leP ltP (eC (.int 0)) (eVo 2) (eVo 1))) [.val (leftV p e ds), .val (.int p), .un] (ds.map PV.int) = .ok ((ds.map PV.int).map fun _ => PV.bl true) := by
    refine lcGo_map (fun _ => PV.bl true) _ fun q hq => ⟨_, rfl, ?_⟩
    obtain ⟨d, hdm, rfl⟩ := List.mem_map.mp hq
    have b := h.dg d hdm
    simp [f_whole, b.1, b.2, isW]
  have L := eLc_ok (vs := [2]) (it := iS (e2 ixP (eVo 0) (eC (.int 2)))) (ρ := [.val (leftV p e ds), .val (.int p), .un]) (items := ds.map PV.int) rfl (by simp [x2]) (by simp; omega) go
  have al : allP [.lst ((ds.map PV.int).map fun _ => PV.bl true)] = .ok (.bl true) := by
    have : ((ds.map PV.int).map fun _ => PV.bl true) = (ds.map fun _ => true).map PV.bl := by simp
    rw [this, allP_bl]
    congr 2
    simp
  unfold D__law_is_left
  refine skp (by simp [isi_tuple, t, l3, x0, f_whole, isW]) ?_
  refine skp (by
    by_cases q : ds = []
    · have n0 : neP (.tup (ds.map PV.int)) (.tup []) = .ok (.bl false) := by rw [neTup', decide_eq_true q]; rfl
      simp [isi_tuple, x1, x2, f_whole, isW, t2, t0, n0]
    · obtain ⟨d, d1, d2⟩ := hd q
      have := neTup' (ds := ds)
      have d3 : (d == 0) = false := by simpa using d2
      simp [isi_tuple, x1, x2, f_whole, isW, t2, t0, this, q, d1, d3]) ?_
  simp only [bSeq_eq, sRet_eq, eD_eq, aCons_eq, aNil_eq, L, bind1, al, st_ok, then_ret, res_ret]
theorem f_unit_l (p e : Int) (ds : List Int) (hp : 2 ≤ p) (hp2 : p ≤ 97) (hd : Dg p ds) (hl : ds.length ≤ 1900) : F__law_unit [leftV p e ds] = .ok (.int (U p ds)) := by
  refine (runF_eq (n := 3) (u := D__law_unit)).trans ?_
  show (D__law_unit [.val (leftV p e ds), .un, .un]).res = _
  obtain ⟨s', r⟩ := unit_run p hp hp2 (leftV p e ds) (by simp [leftV]) ds.reverse 0 .un 0 (fun d h => hd d (List.mem_reverse.mp h)) (by omega) (by simp) (by simp; omega)
  rw [foldl_U, List.map_reverse] at r
  have e2 : ixP (leftV p e ds) (.int 2) = .ok (.tup (ds.map PV.int)) := by simp [leftV]
  simp [D__law_unit, e2, r]
theorem f_ofw (p e x : Int) (m : Nat) (hp : 2 ≤ p ∧ p ≤ 97) (hm : m ≤ 1000) : F__law_of_whole [.int p, .int e, .int x, .int m] = .ok (leftV p (e + lead (digs p x m)) (PM.strip (digs p x m))) := by
  refine (runF_eq (n := 6) (u := D__law_of_whole)).trans ?_
  show (D__law_of_whole [.val (.int p), .val (.int e), .val (.int x), .val (.int m), .un, .un]).res = _
  have t0 : lstP [] = .ok (.lst []) := lstP_ok (by simp)
  have hr : rng1 [.int (m : Int)] = .ok (rngL 0 m) := by rw [rng1_sm (by omega) (by omega)]; rfl
  have run : ∀ (items : List PV) (y : Int) (ds : List Int) (s5 : Slot), ds.length + items.length ≤ 1000 → ∃ y' s5', forL (gN 5) (bSeq (sMut 4 appP (e2 modP (eVo 2) (eVo 0))) (bSeq (sSet 2 (e2 fdivP (eVo 2) (eVo 0))) bNil)) items [.val (.int p), .val (.int e), .val (.int y), .val (.int m), .own (ds.map PV.int), s5] = .next [.val (.int p), .val (.int e), .val (.int y'), .val (.int m), .own ((ds ++ digs p y items.length).map PV.int), s5'] := by
    intro items
    induction items with
    | nil => intro y ds s5 _; exact ⟨y, s5, by simp [digs]⟩
    | cons q qs ih =>
      intro y ds s5 hl
      rw [List.length_cons] at hl
      have m1 := modP_pos (a := y) (show 0 < p by omega)
      have d1 := fdivP_sm (a := y) (show 0 < p by omega) (by omega)
      have ap : appP (ds.map PV.int) (.int (y % p)) = .ok ((ds ++ [y % p]).map PV.int) := by rw [appP_ok (by rw [List.length_map]; omega), List.map_append]; rfl
      obtain ⟨y', s5', e1⟩ := ih (y / p) (ds ++ [y % p]) (.val q) (by rw [List.length_append, List.length_singleton]; omega)
      refine ⟨y', s5', ?_⟩
      rw [List.length_cons, show digs p y (qs.length + 1) = y % p :: digs p (y / p) qs.length from rfl, show ds ++ y % p :: digs p (y / p) qs.length = ds ++ [y % p] ++ digs p (y / p) qs.length by simp, ← e1]
      simp only [forL_cons, gN_eq, onR_some, List.set_cons_succ, List.set_cons_zero, bSeq_eq, sMut_eq, getOwn0, getOwnS, onOwn_some, e2_eq, eVo0, eVos, bind1, m1, st_ok, ap, own_ok, then_next, sSet_eq, d1, bNil_eq, fo_next]
  obtain ⟨y', s5', e1⟩ := run (rngL 0 m) x [] .un (by simp [rngL]; omega)
  rw [show (rngL 0 m).length = m by simp [rngL], List.nil_append] at e1
  have wh : ∀ (ds : List Int) (e : Int), ds.length ≤ 1000 → sWh (tAn (tB1 (e2 neP (eVo 4) (eD lstP aNil))) (tB1 (e2 eqP (e2 ixP (eVo 4) (eC (.int 0))) (eC (.int 0))))) (bSeq (sSetO 4 (eSl slL (eVo 4) (oSome (eC (.int 1))) oNone)) (bSeq (sSet 1 (e2 addP (eVo 1) (eC (.int 1)))) bNil)) [.val (.int p), .val (.int e), .val (.int y'), .val (.int m), .own (ds.map PV.int), s5'] = .next [.val (.int p), .val (.int (e + lead ds)), .val (.int y'), .val (.int m), .own ((PM.strip ds).map PV.int), s5'] := by
    intro ds
    induction ds with
    | nil =>
      intro e _
      have n0 : neP (.lst []) (.lst []) = .ok (.bl false) := by rw [neP_ok (by simp) (by simp)]; simp
      rw [sWh_eq]
      simp [t0, n0, lead, PM.strip]
    | cons d r ih =>
      intro e hl
      rw [List.length_cons] at hl
      have n1 : neP (.lst (PV.int d :: r.map PV.int)) (.lst []) = .ok (.bl true) := by rw [neP_ok (by simp) (by simp)]; simp
      rw [sWh_eq]
      by_cases hd : d = 0
      · subst hd
        have i := ih (e + 1) (by omega)
        have cd : cutG (PV.int 0 :: r.map PV.int) (some 1) none = r.map PV.int := by rw [cut_drop _ _ (by omega)]; rfl
        have ll : lead (0 :: r) = lead r + 1 := by simp [lead]
        have ss : PM.strip (0 :: r) = PM.strip r := by simp [PM.strip]
        rw [ll, ss, show e + ((lead r + 1 : Nat) : Int) = e + 1 + lead r by omega, ← i]
        simp [t0, n1, cd]
      · have hd' : (d == 0) = false := by simpa using hd
        have ll : lead (d :: r) = 0 := by simp [lead, hd']
        have ss : PM.strip (d :: r) = d :: r := by simp [PM.strip, hd']
        rw [ll, ss]
        simp [t0, n1, hd']
  have W := wh (digs p x m) e (by rw [digs_len]; omega)
  have t3 : tupP [.int p, .int (e + lead (digs p x m)), .tup ((PM.strip (digs p x m)).map PV.int)] = .ok (leftV p (e + lead (digs p x m)) (PM.strip (digs p x m))) := tupP3
  unfold D__law_of_whole
  refine stpN (ρ' := [.val (.int p), .val (.int e), .val (.int x), .val (.int m), .own [], .un]) (by simp [t0]) ?_
  refine stpFor (rngL 0 m) _ (by simp [hr]) e1 ?_
  refine stpN W ?_
  simp [t3]
theorem log2_mul_lt {a b m n : Nat} (ha : a.log2 < m) (hb : b < 2 ^ n) : (a * b).log2 < m + n := by
  by_cases h0 : a * b = 0
  · rw [h0, Nat.log2_zero]; omega
  · have a0 : a ≠ 0 := fun z => h0 (by rw [z, Nat.zero_mul])
    rw [Nat.log2_lt h0, Nat.pow_add]
    exact Nat.mul_lt_mul_of_lt_of_le ((Nat.log2_lt a0).mp ha) (Nat.le_of_lt hb) (Nat.pos_of_ne_zero fun z => by rw [z] at hb; have := Nat.pos_of_ne_zero (fun z' : b = 0 => h0 (by rw [z', Nat.mul_zero])); omega)
theorem log2_mul2 {a b m n : Nat} (ha : a.log2 < m) (hb : b.log2 < n) : (a * b).log2 < m + n := by
  by_cases h0 : a * b = 0
  · rw [h0, Nat.log2_zero]; omega
  · have a0 : a ≠ 0 := fun z => h0 (by rw [z, Nat.zero_mul])
    have b0 : b ≠ 0 := fun z => h0 (by rw [z, Nat.mul_zero])
    rw [Nat.log2_lt h0, Nat.pow_add]
    exact Nat.mul_lt_mul_of_lt_of_le ((Nat.log2_lt a0).mp ha) (Nat.le_of_lt ((Nat.log2_lt b0).mp hb)) (Nat.pow_pos (by omega))
theorem log2_add2 {a t m n : Nat} (ha : a.log2 < m) (ht : t.log2 < n) : (a + t).log2 < m + n + 1 := by
  by_cases h0 : a + t = 0
  · rw [h0, Nat.log2_zero]; omega
  · rw [Nat.log2_lt h0]
    have h1 : a < 2 ^ m := by
      by_cases a0 : a = 0
      · rw [a0]; exact Nat.pow_pos (by omega)
      · exact (Nat.log2_lt a0).mp ha
    have h4 : t < 2 ^ n := by
      by_cases a0 : t = 0
      · rw [a0]; exact Nat.pow_pos (by omega)
      · exact (Nat.log2_lt a0).mp ht
    have h2 : 2 ^ m ≤ 2 ^ (m + n) := Nat.pow_le_pow_right (by omega) (by omega)
    have h3 : 2 ^ n ≤ 2 ^ (m + n) := Nat.pow_le_pow_right (by omega) (by omega)
    rw [Nat.pow_succ]
    omega
theorem f_filled (n p more : Int) (hp : 2 ≤ p ∧ p ≤ 97) (hn : n.natAbs.log2 < 1048577) (n0 : 0 ≤ n) (hm : more.natAbs.log2 < 3000000) : ∃ z : Int, F__law_filled [.int n, .int p, .int more] = .ok (.int z) ∧ 0 ≤ z ∧ z.natAbs.log2 < 6000000 ∨ (more < 0) := by
  by_cases m0 : more < 0
  · exact ⟨0, .inr m0⟩
  obtain ⟨ρ', e1, t, rfl, t1, t2⟩ := sWh_inv (t := tB1 (e2 leP (eVo 3) (eVo 0))) (b := bSeq (sSet 3 (e2 mulP (eVo 3) (eVo 1))) bNil)
    (fun ρ => ∃ t : Int, ρ = [.val (.int n), .val (.int p), .val (.int more), .val (.int t)] ∧ 1 ≤ t ∧ t.natAbs.log2 < 1048587) (fun ρ => match ρ with | [_, _, _, .val (.int t)] => (n + 1 - t).toNat | _ => 0) (fun ρ => ∃ t : Int, ρ = [.val (.int n), .val (.int p), .val (.int more), .val (.int t)] ∧ 1 ≤ t ∧ t.natAbs.log2 < 1048587)
    (fun ρ ⟨t, e, h1, h2⟩ => by
      subst e
      by_cases c : t ≤ n
      · right
        have tl : t.natAbs.log2 < 1048577 := log2_le_lt (by omega) hn
        have mm : mulP (.int t) (.int p) = .ok (.int (t * p)) := mulP_ii (okMul_log tl (n := 100) (log2_le_lt (show p.natAbs ≤ 97 by omega) (by decide)) (by omega))
        have tp : t * 2 ≤ t * p := Int.mul_le_mul_of_nonneg_left hp.1 (by omega)
        refine ⟨by simp [c], _, .inl (by simp [mm]), ⟨t * p, rfl, by omega, ?_⟩, ?_⟩
        · rw [Int.natAbs_mul]
          exact log2_mul_lt tl (show p.natAbs < 2 ^ 10 by omega)
        · show (n + 1 - t * p).toNat < (n + 1 - t).toNat
          omega
      · left
        exact ⟨by simp [c], t, rfl, h1, h2⟩) _ [.val (.int n), .val (.int p), .val (.int more), .val (.int 1)] (Nat.le_refl _) ⟨1, rfl, by omega, by decide⟩
  have mm : mulP (.int t) (.int more) = .ok (.int (t * more)) := mulP_ii (okMul_log t2 hm (by omega))
  have tm := Int.mul_nonneg (show 0 ≤ t by omega) (show 0 ≤ more by omega)
  refine ⟨n + t * more, .inl ⟨?_, by omega, by
    have h1 := log2_mul2 t2 hm
    rw [← Int.natAbs_mul] at h1
    have h2 := log2_add2 hn h1
    rw [show (n + t * more).natAbs = n.natAbs + (t * more).natAbs by omega]
    omega⟩⟩
  refine (runF_eq (n := 4) (u := D__law_filled)).trans ?_
  show (D__law_filled [.val (.int n), .val (.int p), .val (.int more), .un]).res = _
  unfold D__law_filled
  refine stp (.int 1) (by simp only [eC_eq]) ?_
  simp only [List.set_cons_succ, List.set_cons_zero]
  refine stpN e1 ?_
  simp only [bSeq_eq, sRet_eq, e2_eq, eVo0, eVos, bind1, mm, addP_ii, st_ok, then_ret, res_ret]
theorem lcC {tgt : PV → Rho → Option Rho} {elt : Rho → R PV} {ρ ρ' : Rho} {p v : PV} {ps vs : List PV} (h1 : tgt p ρ = some ρ') (h2 : elt ρ' = .ok v) (h3 : lcGo tgt cYes elt ρ ps = .ok vs) : lcGo tgt cYes elt ρ (p :: ps) = .ok (v :: vs) := by
  have e : lcGo tgt cYes elt ρ ([p]) = .ok [v] := lcGo_map (fun _ => v) [p] fun q hq => by
    rw [List.mem_singleton.mp hq]; exact ⟨ρ', h1, h2⟩
  rw [lcGo, h1] at e ⊢
  revert e
  dsimp only [cYes]
  rw [h2]
  dsimp only
  intro _
  rw [h3]
theorem lcN {tgt : PV → Rho → Option Rho} {elt : Rho → R PV} {ρ : Rho} : lcGo tgt cYes elt ρ [] = .ok [] := rfl
theorem log_of_lt {a n : Nat} (h : a < 2 ^ n) (hn : 0 < n) : a.log2 < n := log2_lt h hn
theorem f_end_l (c : Int) (s : Nat) (hs : 1 ≤ s ∧ s ≤ 2) : ∃ n : Nat, F__law_end [.int c, .int s] = .ok (.int n) ∧ s ≤ n ∧ n ≤ 200 := by
  have ib : ∀ b : Bool, intP1 [.bl b] = .ok (.int (if b = true then 1 else 0)) := fun b => rfl
  have d8 := fdivP_sm (a := c) (b := 8) (by omega) (by omega)
  have m8 := modP_pos (a := c) (b := 8) (by omega)
  have go : ∀ {q : PV}, (D__law_end [.val (.int c), .val (.int s)]).res = .ok q → F__law_end [.int c, .int s] = .ok q := fun h => (runF_eq (n := 2) (u := D__law_end)).trans h
  obtain ⟨g, hg⟩ : ∃ g, g = (c % 8 == 5) := ⟨_, rfl⟩
  cases g with
  | true =>
    have m := modP_pos (a := c / 8) (b := 201 - (s : Int)) (by omega)
    have r0 := Int.emod_nonneg (c / 8) (show 201 - (s : Int) ≠ 0 by omega)
    have r1 := Int.emod_lt_of_pos (c / 8) (show 0 < 201 - (s : Int) by omega)
    refine ⟨(s + (c / 8) % (201 - (s : Int))).toNat, go ?_, by omega, by omega⟩
    rw [show (((s + (c / 8) % (201 - (s : Int))).toNat : Nat) : Int) = s + (c / 8) % (201 - (s : Int)) by omega]
    simp only [D__law_end, bSeq_eq, sRet_eq, e2_eq, eD_eq, aCons_eq, aNil_eq, eC_eq, eVo0, eVos, bind1, d8, m8, subP_ii, lstP2, eqP_ii, ← hg, ib, if_true, ixP_l1, m, addP_ii, st_ok, then_ret, res_ret]
  | false =>
    have m := modP_pos (a := c / 8) (b := 31 - (s : Int)) (by omega)
    have r0 := Int.emod_nonneg (c / 8) (show 31 - (s : Int) ≠ 0 by omega)
    have r1 := Int.emod_lt_of_pos (c / 8) (show 0 < 31 - (s : Int) by omega)
    refine ⟨(s + (c / 8) % (31 - (s : Int))).toNat, go ?_, by omega, by omega⟩
    rw [show (((s + (c / 8) % (31 - (s : Int))).toNat : Nat) : Int) = s + (c / 8) % (31 - (s : Int)) by omega]
    simp only [D__law_end, bSeq_eq, sRet_eq, e2_eq, eD_eq, aCons_eq, aNil_eq, eC_eq, eVo0, eVos, bind1, d8, m8, subP_ii, lstP2, eqP_ii, ← hg, ib, if_neg Bool.false_ne_true, ixP_l0, m, addP_ii, st_ok, then_ret, res_ret]
theorem f_number_l (p a b : Int) (s n : Nat) (plain : Bool) (hp : p ∈ primesL) (hs : 1 ≤ s ∧ s ≤ 2) (hn : s ≤ n ∧ n ≤ 200) (ha : a.natAbs.log2 < 1048577) (hb : b.natAbs.log2 < 1048577) :
    ∃ x : Int, F__law_number [.int p, .int s, .int a, .int b, .int n, .bl plain] = .ok (.int x) ∧ 0 ≤ x ∧ x < p ^ n ∧ Mo (p ^ s) x 0 := by
  have hpb := primesL_le p hp
  have ps := f_power_l p s (by omega) (by omega) (by omega)
  have pn := f_power_l p n (by omega) (by omega) (by omega)
  rw [Int.toNat_natCast] at ps pn
  have P0 : 0 < p ^ n := Int.pow_pos (by omega)
  have Pb : (p ^ n).natAbs < 2 ^ 1500 := sz_le (pow_sz hpb.1 hpb.2 _) (by omega)
  have Sb : (p ^ s).natAbs < 2 ^ 100 := sz_le (pow_sz hpb.1 hpb.2 _) (by omega)
  obtain ⟨C, hC⟩ : ∃ C : Int, C = 982451653 ^ 5 := ⟨_, rfl⟩
  have Cb : C.natAbs < 2 ^ 200 := by rw [hC]; decide
  have pC : powP (.int 982451653) (.int 5) = .ok (.int C) := by rw [powP_ii (by omega) (by omega) (by omega), hC]; rfl
  obtain ⟨D, hD⟩ : ∃ D : Int, D = 48271 ^ 11 := ⟨_, rfl⟩
  have Db : D.natAbs < 2 ^ 200 := by rw [hD]; decide
  have pD : powP (.int 48271) (.int 11) = .ok (.int D) := by rw [powP_ii (by omega) (by omega) (by omega), hD]; rfl
  have d3 := fdivP_sm (a := b) (b := 3) (by omega) (by omega)
  have m3 := modP_pos (a := b) (b := 3) (by omega)
  have bl : (b / 3).natAbs.log2 < 1048577 := log2_le_lt (show (b / 3).natAbs ≤ b.natAbs by omega) hb
  have mC : mulP (.int a) (.int C) = .ok (.int (a * C)) := mulP_ii (okMul_log ha (log_of_lt Cb (by omega)) (by omega))
  have mD : mulP (.int (b / 3)) (.int D) = .ok (.int (b / 3 * D)) := mulP_ii (okMul_log bl (log_of_lt Db (by omega)) (by omega))
  have f7 := fdivP_sm (a := p ^ n) (b := 7) (by omega) (by omega)
  obtain ⟨t, ht⟩ : ∃ t, t = p ^ n / 7 * (b % 3) := ⟨_, rfl⟩
  have mt : mulP (.int (p ^ n / 7)) (.int (b % 3)) = .ok (.int t) := by rw [ht]; exact mulP_ii (okMul_of (m := 1500) (n := 10) (by omega) (by omega) (by omega) (by omega) (by omega))
  have t0 : 0 ≤ t := by rw [ht]; exact Int.mul_nonneg (by omega) (by omega)
  have tb : t.natAbs < 2 ^ 1510 := by rw [ht]; exact mul_lt (m := 1500) (n := 10) (by omega) (by omega) (by omega)
  obtain ⟨z, hz⟩ : ∃ z, z = ((a * C + b / 3 * D).natAbs : Int) + t := ⟨_, rfl⟩
  have z0 : 0 ≤ z := by omega
  have zl : z.natAbs.log2 < 3000000 := by
    have h1 := log2_mul2 ha (log_of_lt Cb (by omega))
    have h2 := log2_mul2 bl (log_of_lt Db (by omega))
    have h3 := log2_add2 h1 h2
    rw [← Int.natAbs_mul, ← Int.natAbs_mul] at h3
    have h4 := log2_add2 h3 (log_of_lt tb (by omega))
    have h5 : z.natAbs ≤ (a * C).natAbs + (b / 3 * D).natAbs + t.natAbs := by omega
    have h6 := log2_le_lt h5 h4
    omega
  obtain ⟨y, Y, y0, yl⟩ : ∃ y : Int, F__law_filled [.int a.natAbs, .int p, .int z] = .ok (.int y) ∧ 0 ≤ y ∧ y.natAbs.log2 < 6000000 := by
    obtain ⟨y, hy | hy⟩ := f_filled a.natAbs p z hpb (by rw [Int.natAbs_natCast]; exact ha) (by omega) zl
    · exact ⟨y, hy⟩
    · omega
  obtain ⟨w, hw⟩ : ∃ w, w = if plain = true then y else z := ⟨_, rfl⟩
  have wl : w.natAbs.log2 < 6000000 := by
    rw [hw]
    split
    · exact yl
    · omega
  have mw : mulP (.int w) (.int (p ^ s)) = .ok (.int (w * p ^ s)) := mulP_ii (okMul_log wl (log_of_lt Sb (by omega)) (by omega))
  have mo := modP_pos (a := w * p ^ s) P0
  refine ⟨w * p ^ s % p ^ n, ?_, Int.emod_nonneg _ (by omega), Int.emod_lt_of_pos _ P0, ((Mo.emod (p ^ n) (w * p ^ s)).low hn.1).trans (Mo.zero w (Int.mul_comm _ _))⟩
  refine (runF_eq (n := 7) (u := D__law_number)).trans ?_
  show (D__law_number [.val (.int p), .val (.int s), .val (.int a), .val (.int b), .val (.int n), .val (.bl plain), .un]).res = _
  unfold D__law_number
  refine stp (.int z) (by simp only [e2_eq, eD_eq, aCons_eq, aNil_eq, eC_eq, eV0, eVs, eVo0, eVos, bind1, pC, mC, d3, pD, mD, addP_ii, absP_i, pn, f7, m3, mt, hz]) ?_
  simp only [List.set_cons_succ, List.set_cons_zero]
  refine stpW (i := 6) plain (.int y) (.int z) (.int w) (by simp only [tB1_eq, eVs, eV0, bind1, asB_eq]) (fun _ => by simp only [eD_eq, aCons_eq, aNil_eq, eV0, eVs, eVo0, eVos, bind1, absP_i, Y]) rfl (by rw [hw]; split <;> rfl) ?_
  simp only [List.set_cons_succ, List.set_cons_zero]
  simp only [bSeq_eq, sRet_eq, e2_eq, eD_eq, aCons_eq, aNil_eq, eV0, eVs, eVo0, eVos, bind1, ps, pn, mw, mo, st_ok, then_ret, res_ret]
theorem f_value {p : Int} {e : Nat} {ds : List Int} (hp : p ∈ primesL) (hd : Dg p ds) (hl : e + ds.length ≤ 400) : F__law_value [leftV p e ds] = .ok (.int (U p ds * p ^ e)) := by
  have hpb := primesL_le p hp
  have un := f_unit_l p e ds hpb.1 hpb.2 hd (by omega)
  have pw := f_power_l p e (by omega) (by omega) (by omega)
  rw [Int.toNat_natCast] at pw
  have ub := U_nonneg hpb.1 hd
  have Db : (p ^ ds.length).natAbs < 2 ^ 2900 := sz_le (pow_sz hpb.1 hpb.2 _) (by omega)
  have Eb : (p ^ e).natAbs < 2 ^ 2900 := sz_le (pow_sz hpb.1 hpb.2 _) (by omega)
  have mm : mulP (.int (U p ds)) (.int (p ^ e)) = .ok (.int (U p ds * p ^ e)) := mulP_ii (okMul_of (m := 2900) (by omega) Eb (by omega) (by omega) (by omega))
  obtain ⟨x0, x1, _⟩ := ixT p e ds
  refine (runF_eq (n := 1) (u := D__law_value)).trans ?_
  show (D__law_value [.val (leftV p e ds)]).res = _
  simp only [D__law_value, bSeq_eq, sRet_eq, e2_eq, eD_eq, aCons_eq, aNil_eq, eC_eq, eV0, eVo0, bind1, un, x0, x1, pw, mm, st_ok, then_ret, res_ret]
theorem least2 (a b : Nat) : ∃ m : Nat, minPL [.lst [.int a, .int b]] = .ok (.int m) ∧ m ≤ a ∧ m ≤ b ∧ (m = a ∨ m = b) := by
  have h := minPL_ok (ns := [(a : Int), (b : Int)]) (by simp)
  have hm := leastI_mem (ns := [(a : Int), (b : Int)]) (by simp)
  have h1 := leastI_le (ns := [(a : Int), (b : Int)]) (a : Int) (by simp)
  have h2 := leastI_le (ns := [(a : Int), (b : Int)]) (b : Int) (by simp)
  simp only [List.mem_cons, List.not_mem_nil, or_false] at hm
  obtain ⟨v, hv⟩ : ∃ v, v = leastI [(a : Int), (b : Int)] := ⟨_, rfl⟩
  rw [← hv] at h hm h1 h2
  refine ⟨v.toNat, ?_, by omega, by omega, by omega⟩
  rw [show ((v.toNat : Nat) : Int) = v by omega]
  exact h
theorem p_lead {p : Int} {n : Nat} {T : Int} : (lead (digs p T n) : Int) + (PM.strip (digs p T n)).length = n := by
  have := strip_len (digs p T n)
  have := lead_le (digs p T n)
  have := digs_len p n T
  omega
theorem law_true : ∀ ns : List Int, ns.length ≤ 63 → (∀ z ∈ ns, z.natAbs.log2 < 1048577) → F_law [.frz (ns.map PV.int)] = .ok (.bl true) := by
  intro ns hns hbits
  refine (runF_eq (n := 16) (u := D_law)).trans ?_
  show (D_law [.val (.frz (ns.map PV.int)), .un, .un, .un, .un, .un, .un, .un, .un, .un, .un, .un, .un, .un, .un, .un]).res = _
  have hb := nth_log ns hbits
  have fc := fun k h => f_cell ns k h
  have ib : ∀ b : Bool, intP1 [.bl b] = .ok (.int (if b = true then 1 else 0)) := fun b => rfl
  obtain ⟨p, hp⟩ : ∃ p, p = nth primes28 (nth ns 0 % 28) := ⟨_, rfl⟩
  have pm : p ∈ primesL := by rw [hp]; exact prime_in _
  have P := f_prime (nth ns 0)
  rw [← hp] at P
  have hpb := primesL_le p pm
  obtain ⟨s, hs⟩ : ∃ s : Nat, s = if p = 2 then 2 else 1 := ⟨_, rfl⟩
  have s12 : 1 ≤ s ∧ s ≤ 2 := by rw [hs]; split <;> omega
  have s2 : p = 2 → s = 2 := fun e => by rw [hs, if_pos e]
  have st : (1 : Int) + (if (p == 2) = true then 1 else 0) = s := by
    rw [hs]
    by_cases h : p = 2
    · rw [if_pos (by simpa using h), if_pos h]; rfl
    · rw [if_neg (by simpa using h), if_neg h]; rfl
  obtain ⟨pl, hpl⟩ : ∃ pl, pl = (nth ns 0 / 28 % 2 == 1) := ⟨_, rfl⟩
  have d28 := fdivP_sm (a := nth ns 0) (b := 28) (by omega) (by omega)
  have m28 := modP_pos (a := nth ns 0 / 28) (b := 2) (by omega)
  -- the cells
  obtain ⟨cs, hcs⟩ : ∃ cs, cs = (List.range 12).map fun (j : Nat) => nth ns (1 + (j : Int)) := ⟨_, rfl⟩
  have SC : SeqI (.lst (cs.map PV.int)) cs := .inl rfl
  have cl : cs.length = 12 := by rw [hcs]; simp
  have ix : ∀ k : Nat, k < 12 → ixP (.lst (cs.map PV.int)) (.int k) = .ok (.int (nth ns (1 + (k : Int)))) := fun k hk => by
    rw [SC.ix k (by omega), hcs, List.getD_eq_getElem?_getD, List.getElem?_map, List.getElem?_range hk]
    rfl
  obtain ⟨CL, hCL⟩ : ∃ CL, CL = PV.lst (cs.map PV.int) := ⟨_, rfl⟩
  have C : eLc [14] (iR rng2 (aCons (eC (.int 1)) (aCons (eC (.int 13)) aNil))) (gN 14) cYes (eD F__law_cell_at (aCons (eV 0) (aCons (eV 14) aNil))) [.val (.frz (ns.map PV.int)), .val (.int p), .val (.int s), .un, .un, .un, .un, .un, .un, .un, .un, .un, .un, .un, .un, .un] = .ok CL := by
    have hr : rng2 [.int 1, .int 13] = .ok (rngL 1 12) := by rw [rng2_all]; rfl
    have e : cs.map PV.int = (rngL 1 12).map fun q => match q with | .int j => .int (nth ns j) | q => q := by
      rw [hcs]
      unfold rngL
      rw [List.map_map, List.map_map]
      apply List.map_congr_left
      intro j _
      simp
    rw [hCL, e]
    refine eLc_ok rfl (by simp only [iR_eq, aCons_eq, aNil_eq, eC_eq, bind1, hr]) (by rw [rngL_len]; omega) (lcGo_map _ _ fun q hq => ?_)
    unfold rngL at hq
    obtain ⟨j, _, rfl⟩ := List.mem_map.mp hq
    refine ⟨_, rfl, ?_⟩
    simp only [wipeR, List.foldl_cons, List.foldl_nil, List.set_cons_succ, List.set_cons_zero, eD_eq, aCons_eq, aNil_eq, eV0, eVs, bind1, f_cell ns (1 + (j : Int)) (by omega)]
  rw [← hCL] at ix
  have i0 := ix 0 (by omega)
  have i1 := ix 1 (by omega)
  have i2 := ix 2 (by omega)
  have i3 := ix 3 (by omega)
  have i4 := ix 4 (by omega)
  have i5 := ix 5 (by omega)
  have i6 := ix 6 (by omega)
  have i7 := ix 7 (by omega)
  have i8 := ix 8 (by omega)
  have i9 := ix 9 (by omega)
  have i10 := ix 10 (by omega)
  have i11 := ix 11 (by omega)
  simp only [show ((0 : Nat) : Int) = 0 from rfl, show ((1 : Nat) : Int) = 1 from rfl, show ((2 : Nat) : Int) = 2 from rfl, show ((3 : Nat) : Int) = 3 from rfl, show ((4 : Nat) : Int) = 4 from rfl, show ((5 : Nat) : Int) = 5 from rfl, show ((6 : Nat) : Int) = 6 from rfl, show ((7 : Nat) : Int) = 7 from rfl, show ((8 : Nat) : Int) = 8 from rfl, show ((9 : Nat) : Int) = 9 from rfl, show ((10 : Nat) : Int) = 10 from rfl, show ((11 : Nat) : Int) = 11 from rfl] at i0 i1 i2 i3 i4 i5 i6 i7 i8 i9 i10 i11
  -- the ends, the numbers
  obtain ⟨n0, N0, n01, n02⟩ := f_end_l (nth ns (1 + 0)) s s12
  obtain ⟨n1, N1, n11, n12⟩ := f_end_l (nth ns (1 + 3)) s s12
  obtain ⟨n2, N2, n21, n22⟩ := f_end_l (nth ns (1 + 6)) s s12
  obtain ⟨n3, N3, n31, n32⟩ := f_end_l (nth ns (1 + 9)) s s12
  obtain ⟨x0, X0, x01, x02, x03⟩ := f_number_l p (nth ns (1 + 1)) (nth ns (1 + 2)) s n0 pl pm s12 ⟨n01, n02⟩ (hb _) (hb _)
  obtain ⟨x1, X1, x11, x12, x13⟩ := f_number_l p (nth ns (1 + 4)) (nth ns (1 + 5)) s n1 pl pm s12 ⟨n11, n12⟩ (hb _) (hb _)
  obtain ⟨x2, X2, x21, x22, x23⟩ := f_number_l p (nth ns (1 + 7)) (nth ns (1 + 8)) s n2 pl pm s12 ⟨n21, n22⟩ (hb _) (hb _)
  obtain ⟨x3, X3, x31, x32, x33⟩ := f_number_l p (nth ns (1 + 10)) (nth ns (1 + 11)) s n3 pl pm s12 ⟨n31, n32⟩ (hb _) (hb _)
  have r4 : rng1 [.int 4] = .ok [.int 0, .int 1, .int 2, .int 3] := by rw [rng1_sm (by omega) (by omega)]; rfl
  have r2 : rng1 [.int 2] = .ok [.int 0, .int 1] := by rw [rng1_sm (by omega) (by omega)]; rfl
  have r24 : rng2 [.int 2, .int 4] = .ok [.int 2, .int 3] := by rw [rng2_all]; rfl
  have q30 : mulP (.int 3) (.int 0) = .ok (.int 0) := mulP_sm (by omega) (by omega) (by omega) (by omega)
  have q31 : mulP (.int 3) (.int 1) = .ok (.int 3) := mulP_sm (by omega) (by omega) (by omega) (by omega)
  have q32 : mulP (.int 3) (.int 2) = .ok (.int 6) := mulP_sm (by omega) (by omega) (by omega) (by omega)
  have q33 : mulP (.int 3) (.int 3) = .ok (.int 9) := mulP_sm (by omega) (by omega) (by omega) (by omega)
  have a1 : ∀ x y : Int, addP (.int x) (.int y) = .ok (.int (x + y)) := fun _ _ => addP_ii
  obtain ⟨EL, hEL⟩ : ∃ EL, EL = PV.lst [.int n0, .int n1, .int n2, .int n3] := ⟨_, rfl⟩
  have e0 : ixP EL (.int 0) = .ok (.int n0) := by rw [hEL]; rfl
  have e1 : ixP EL (.int 1) = .ok (.int n1) := by rw [hEL]; rfl
  have e2' : ixP EL (.int 2) = .ok (.int n2) := by rw [hEL]; rfl
  have e3 : ixP EL (.int 3) = .ok (.int n3) := by rw [hEL]; rfl
  obtain ⟨XL, hXL⟩ : ∃ XL, XL = PV.lst [.int x0, .int x1, .int x2, .int x3] := ⟨_, rfl⟩
  have y0 : ixP XL (.int 0) = .ok (.int x0) := by rw [hXL]; rfl
  have y1 : ixP XL (.int 1) = .ok (.int x1) := by rw [hXL]; rfl
  have y2 : ixP XL (.int 2) = .ok (.int x2) := by rw [hXL]; rfl
  have y3 : ixP XL (.int 3) = .ok (.int x3) := by rw [hXL]; rfl
  -- logs and exps
  obtain ⟨T0, L0, G0, t0, w0, w0'⟩ := log_fact pm x01 x02 s12.1 s2 n01 (by omega) x03
  obtain ⟨T1, L1, G1, t1, w1, w1'⟩ := log_fact pm x11 x12 s12.1 s2 n11 (by omega) x13
  obtain ⟨W2, E2, H2, u2, v2, v2'⟩ := exp_fact pm x21 x22 s12.1 s2 n21 (by omega) x23
  obtain ⟨W3, E3, H3, u3, v3, v3'⟩ := exp_fact pm x31 x32 s12.1 s2 n31 (by omega) x33
  have near : ∀ W : Int, Mo (p ^ s) W 1 → Mo (p ^ s) (W - 1) 0 := fun W h => by
    have := h.sub (Mo.refl _ 1)
    rwa [Int.sub_self] at this
  -- back again
  have back : ∀ (x T : Int) (n : Nat), 0 ≤ x → x < p ^ n → s ≤ n → n ≤ 200 → Mo (p ^ s) x 0 → Lg p n x T → Mo (p ^ s) T 0 → F_exp_of [leftV p (lead (digs p T n)) (PM.strip (digs p T n))] = .ok (leftV p 0 (digs p (x + 1) n)) := fun x T n h0 h1 h2 h3 h4 h5 h6 => by
    have P0 : 0 < p ^ n := Int.pow_pos (by omega)
    obtain ⟨S, hS⟩ : ∃ S, S = T % p ^ n := ⟨_, rfl⟩
    have ST : Mo (p ^ n) S T := by rw [hS]; exact Mo.emod _ _
    have z : Mo (p ^ s) S 0 := (ST.low h2).trans h6
    obtain ⟨W, E, H, k1, k2, k3⟩ := exp_fact (y := S) pm (n := n) (by rw [hS]; exact Int.emod_nonneg _ (by omega)) (by rw [hS]; exact Int.emod_lt_of_pos _ P0) s12.1 s2 h2 (by omega) z
    rw [digs_mo hpb.1 n ST] at E
    have I := Lg.inj pm (nr_of s12.1 s2 (near W k1)) (nr_of s12.1 s2 h4) H (h5.congrT ST)
    have I' := I.add (Mo.refl (p ^ n) 1)
    rw [show W - 1 + 1 = W by omega] at I'
    rw [E, digs_mo hpb.1 n I']
  have back2 : ∀ (y W : Int) (n : Nat), s ≤ n → n ≤ 200 → Lg p n (W - 1) y → Mo (p ^ s) W 1 → 1 ≤ W → W < p ^ n → F_log_of [leftV p 0 (digs p W n)] = .ok (leftV p (lead (digs p y n)) (PM.strip (digs p y n))) := fun y W n h2 h3 h5 h6 h7 h8 => by
    obtain ⟨T, L, G, _, _, _⟩ := log_fact (x := W - 1) pm (n := n) (by omega) (by omega) s12.1 s2 h2 (by omega) (near W h6)
    rw [show W - 1 + 1 = W by omega] at L
    rw [L, digs_mo hpb.1 n (G.uniq hpb.1 h5)]
  have B0 := back x0 T0 n0 x01 x02 n01 n02 x03 G0 t0
  have B1 := back x1 T1 n1 x11 x12 n11 n12 x13 G1 t1
  have B2 := back2 x2 W2 n2 n21 n22 H2 u2 v2 v2'
  have B3 := back2 x3 W3 n3 n31 n32 H3 u3 v3 v3'
  have O : ∀ (x : Int) (n : Nat), n ≤ 200 → F__law_of_whole [.int p, .int 0, .int x, .int n] = .ok (leftV p (lead (digs p x n)) (PM.strip (digs p x n))) := fun x n hn => by
    have := f_ofw p 0 x n hpb (by omega)
    rw [show (0 : Int) + ((lead (digs p x n) : Nat) : Int) = (lead (digs p x n) : Nat) by omega] at this
    exact this
  have O0 := O (x0 + 1) n0 n02
  have O1 := O (x1 + 1) n1 n12
  have O2 := O x2 n2 n22
  have O3 := O x3 n3 n32
  rw [w0, w0', show ((0 : Nat) : Int) = 0 from rfl] at O0
  rw [w1, w1', show ((0 : Nat) : Int) = 0 from rfl] at O1
  have lf : ∀ (T : Int) (n : Nat), n ≤ 200 → F__law_is_left [leftV p (lead (digs p T n)) (PM.strip (digs p T n)), .int p] = .ok (.bl true) := fun T n hn => f_is_left_l p _ _ 400 (lf_strip pm (digs_Dg hpb.1 n T) (by rw [digs_len]; omega)) (by omega)
  have hd1 : ∀ (W : Int) (n : Nat), s ≤ n → Mo (p ^ s) W 1 → lead (digs p W n) = 0 ∧ PM.strip (digs p W n) = digs p W n := fun W n hn h => by
    refine lead_nz ?_
    have := (h.low s12.1).eq
    rw [Int.pow_succ, Int.pow_zero, Int.one_mul] at this
    rw [digs_head p _ (by omega), this, Int.emod_eq_of_lt (by omega) (by omega)]; simp
  have lf2 : ∀ (W : Int) (n : Nat), s ≤ n → n ≤ 200 → Mo (p ^ s) W 1 → F__law_is_left [leftV p 0 (digs p W n), .int p] = .ok (.bl true) := fun W n h1 h2 h3 => by
    have := lf W n h2
    rw [(hd1 W n h1 h3).1, (hd1 W n h1 h3).2] at this
    exact this
  have I0 := lf T0 n0 n02
  have I1 := lf T1 n1 n12
  have I2 := lf2 W2 n2 n21 n22 u2
  have I3 := lf2 W3 n3 n31 n32 u3
  have VT : ∀ (T : Int) (n : Nat), n ≤ 200 → F__law_value [leftV p (lead (digs p T n)) (PM.strip (digs p T n))] = .ok (.int (T % p ^ n)) := fun T n hn => by
    have pl := p_lead (p := p) (n := n) (T := T)
    rw [f_value pm (strip_Dg (digs_Dg hpb.1 n T)) (by omega), told_val hpb.1]
  have VW : ∀ (W : Int) (n : Nat), s ≤ n → n ≤ 200 → Mo (p ^ s) W 1 → F__law_value [leftV p 0 (digs p W n)] = .ok (.int (W % p ^ n)) := fun W n h1 h2 h3 => by
    have := VT W n h2
    rw [(hd1 W n h1 h3).1, (hd1 W n h1 h3).2] at this
    exact this
  have V0 := VT T0 n0 n02
  have V1 := VT T1 n1 n12
  have V2 := VW W2 n2 n21 n22 u2
  have V3 := VW W3 n3 n31 n32 u3
  -- the product
  obtain ⟨m, Mn, m0, m1, mm⟩ := least2 n0 n1
  have pr : mulP (.int (x0 + 1)) (.int (x1 + 1)) = .ok (.int ((x0 + 1) * (x1 + 1))) := by
    have b0 : (p ^ n0).natAbs < 2 ^ 1500 := sz_le (pow_sz hpb.1 hpb.2 _) (by omega)
    have b1 : (p ^ n1).natAbs < 2 ^ 1500 := sz_le (pow_sz hpb.1 hpb.2 _) (by omega)
    exact mulP_ii (okMul_of (m := 1501) (n := 1501) (by omega) (by omega) (by omega) (by omega) (by omega))
  obtain ⟨z, hz⟩ : ∃ z, z = (x0 + 1) * (x1 + 1) % p ^ m := ⟨_, rfl⟩
  have Pm : 0 < p ^ m := Int.pow_pos (by omega)
  have zM : Mo (p ^ m) z ((x0 + 1) * (x1 + 1)) := by rw [hz]; exact Mo.emod _ _
  have z1 : Mo (p ^ s) z 1 := (zM.low (by omega)).trans (by
    have a := (x03.add (Mo.refl _ 1)).mul (x13.add (Mo.refl _ 1))
    exact a.trans (.of_eq (by omega)))
  have zn : 0 ≤ z := by rw [hz]; exact Int.emod_nonneg _ (by omega)
  have zp : 1 ≤ z := by
    rcases Int.lt_or_le z 1 with g | g
    · exfalso
      have e0 : z = 0 := by omega
      rw [e0] at z1
      have e1 := (z1.low (show 1 ≤ s by omega)).eq
      rw [Int.pow_succ, Int.pow_zero, Int.one_mul, Int.zero_emod, Int.emod_eq_of_lt (by omega) (by omega)] at e1
      omega
    · exact g
  have zlt : z < p ^ m := by rw [hz]; exact Int.emod_lt_of_pos _ Pm
  obtain ⟨T4, L4, G4, _, _, _⟩ := log_fact (x := z - 1) pm (n := m) (by omega) (by omega) s12.1 s2 (by omega) (by omega) (near z z1)
  rw [show z - 1 + 1 = z by omega, digs_mo hpb.1 m zM] at L4
  have O4 := O ((x0 + 1) * (x1 + 1)) m (by omega)
  have zM' : Mo (p ^ s) ((x0 + 1) * (x1 + 1)) 1 := (zM.symm.low (by omega)).trans z1
  rw [(hd1 _ m (by omega) zM').1, (hd1 _ m (by omega) zM').2, show ((0 : Nat) : Int) = 0 from rfl] at O4
  have G5 := (G0.low m0).mul (G1.low m1)
  have G6 := G5.congr hpb.1 (show 1 ≤ m by omega) (show Mo (p ^ m) (x0 + x1 + x0 * x1) (z - 1) from by
    have := zM.symm.sub (Mo.refl _ 1)
    exact (Mo.of_eq (by grind)).trans this)
  have S4 : Mo (p ^ m) (T0 % p ^ n0 + T1 % p ^ n1) T4 := (((Mo.emod (p ^ n0) T0).low m0).add ((Mo.emod (p ^ n1) T1).low m1)).trans (G6.uniq hpb.1 G4)
  have O5 := O (T0 % p ^ n0 + T1 % p ^ n1) m (by omega)
  rw [digs_mo hpb.1 m S4] at O5
  have ne5 := neLeft p (lead (digs p T4 m)) (PM.strip (digs p T4 m))
  -- the sum
  obtain ⟨k, Kn, k0, k1, kk⟩ := least2 n2 n3
  obtain ⟨y, hy⟩ : ∃ y, y = (x2 + x3) % p ^ k := ⟨_, rfl⟩
  have Pk : 0 < p ^ k := Int.pow_pos (by omega)
  have yM : Mo (p ^ k) y (x2 + x3) := by rw [hy]; exact Mo.emod _ _
  have yz : Mo (p ^ s) y 0 := (yM.low (by omega)).trans (by have := x23.add x33; rwa [Int.add_zero] at this)
  obtain ⟨W6, E6, H6, u6, _, _⟩ := exp_fact (y := y) pm (n := k) (by rw [hy]; exact Int.emod_nonneg _ (by omega)) (by rw [hy]; exact Int.emod_lt_of_pos _ Pk) s12.1 s2 (by omega) (by omega) yz
  rw [digs_mo hpb.1 k yM] at E6
  have O6 := O (x2 + x3) k (by omega)
  have H7 := (H2.low k0).mul (H3.low k1)
  have H8 : Lg p k (W2 * W3 - 1) y := (H7.congr hpb.1 (by omega) (Mo.of_eq (by grind))).congrT yM
  have u7 : Mo (p ^ s) (W2 * W3) 1 := (u2.mul u3).trans (.of_eq (by omega))
  have I7 := Lg.inj pm (nr_of s12.1 s2 (near _ u7)) (nr_of s12.1 s2 (near _ u6)) H8 H6
  have I8 := I7.add (Mo.refl (p ^ k) 1)
  rw [show W2 * W3 - 1 + 1 = W2 * W3 by omega, show W6 - 1 + 1 = W6 by omega] at I8
  have S8 : Mo (p ^ k) (W2 % p ^ n2 * (W3 % p ^ n3)) W6 := (((Mo.emod (p ^ n2) W2).low k0).mul ((Mo.emod (p ^ n3) W3).low k1)).trans I8
  have O7 := O (W2 % p ^ n2 * (W3 % p ^ n3)) k (by omega)
  rw [digs_mo hpb.1 k S8, (hd1 W6 k (by omega) u6).1, (hd1 W6 k (by omega) u6).2, show ((0 : Nat) : Int) = 0 from rfl] at O7
  have mw : mulP (.int (W2 % p ^ n2)) (.int (W3 % p ^ n3)) = .ok (.int (W2 % p ^ n2 * (W3 % p ^ n3))) := by
    have b0 : (p ^ n2).natAbs < 2 ^ 1500 := sz_le (pow_sz hpb.1 hpb.2 _) (by omega)
    have b1 : (p ^ n3).natAbs < 2 ^ 1500 := sz_le (pow_sz hpb.1 hpb.2 _) (by omega)
    have c0 : 0 < p ^ n2 := Int.pow_pos (by omega)
    have c1 : 0 < p ^ n3 := Int.pow_pos (by omega)
    have d0 := Int.emod_nonneg W2 (show p ^ n2 ≠ 0 by omega)
    have d1 := Int.emod_nonneg W3 (show p ^ n3 ≠ 0 by omega)
    have d2 := Int.emod_lt_of_pos W2 c0
    have d3 := Int.emod_lt_of_pos W3 c1
    exact mulP_ii (okMul_of (m := 1501) (n := 1501) (by omega) (by omega) (by omega) (by omega) (by omega))
  have eq8 : eqP (leftV p 0 (digs p W6 k)) (leftV p 0 (digs p W6 k)) = .ok (.bl true) := eqLeft p 0 _
  -- what stands in the slots
  obtain ⟨A0, hA0⟩ : ∃ A, A = leftV p 0 (digs p (x0 + 1) n0) := ⟨_, rfl⟩
  obtain ⟨A1, hA1⟩ : ∃ A, A = leftV p 0 (digs p (x1 + 1) n1) := ⟨_, rfl⟩
  obtain ⟨A2, hA2⟩ : ∃ A, A = leftV p (lead (digs p x2 n2)) (PM.strip (digs p x2 n2)) := ⟨_, rfl⟩
  obtain ⟨A3, hA3⟩ : ∃ A, A = leftV p (lead (digs p x3 n3)) (PM.strip (digs p x3 n3)) := ⟨_, rfl⟩
  obtain ⟨Q0, hQ0⟩ : ∃ A, A = leftV p (lead (digs p T0 n0)) (PM.strip (digs p T0 n0)) := ⟨_, rfl⟩
  obtain ⟨Q1, hQ1⟩ : ∃ A, A = leftV p (lead (digs p T1 n1)) (PM.strip (digs p T1 n1)) := ⟨_, rfl⟩
  obtain ⟨Q2, hQ2⟩ : ∃ A, A = leftV p 0 (digs p W2 n2) := ⟨_, rfl⟩
  obtain ⟨Q3, hQ3⟩ : ∃ A, A = leftV p 0 (digs p W3 n3) := ⟨_, rfl⟩
  have okA : ∀ (e : Int) (ds : List Int) (f : Int) (es : List Int), okD 30 (.lst [leftV p e ds, leftV p f es]) = true := fun e ds f es => by simp [okD, leftV]
  have nN : neP (.lst [A0, A1]) (.lst [A0, A1]) = .ok (.bl false) := neP_self (by rw [hA0, hA1]; exact okA _ _ _ _)
  have nS : neP (.lst [A2, A3]) (.lst [A2, A3]) = .ok (.bl false) := neP_self (by rw [hA2, hA3]; exact okA _ _ _ _)
  rw [← hA0] at L0 O0 B0
  rw [← hA1] at L1 O1 B1
  rw [← hA2] at O2 E2 B2
  rw [← hA3] at O3 E3 B3
  rw [← hQ0] at L0 B0 I0 V0
  rw [← hQ1] at L1 B1 I1 V1
  rw [← hQ2] at E2 B2 I2 V2
  rw [← hQ3] at E3 B3 I3 V3
  have j0 : ∀ a b : PV, ixP (.lst [a, b]) (.int 0) = .ok a := fun _ _ => rfl
  have j1 : ∀ a b : PV, ixP (.lst [a, b]) (.int 1) = .ok b := fun _ _ => rfl
  have c2 : slP EL none (some 2) = .ok (.lst [.int n0, .int n1]) := by rw [hEL]; rfl
  have c4 : slP EL (some 2) none = .ok (.lst [.int n2, .int n3]) := by rw [hEL]; rfl
  have ad4 : addP (.lst [Q0, Q1]) (.lst [Q2, Q3]) = .ok (.lst [Q0, Q1, Q2, Q3]) := addP_ok (by simp)
  have al : allP [.lst [.bl true, .bl true, .bl true, .bl true]] = .ok (.bl true) := allP_bl (bs := [true, true, true, true])
  unfold D_law
  refine stp (.int p) (by simp [fc, P]) ?_
  simp only [List.set_cons_succ, List.set_cons_zero]
  refine stp (.int s) (by simp only [e2_eq, eD_eq, aCons_eq, aNil_eq, eC_eq, eVo0, eVos, bind1, eqP_ii, ib, addP_ii, st]) ?_
  simp only [List.set_cons_succ, List.set_cons_zero]
  refine stp CL (by exact C) ?_
  simp only [List.set_cons_succ, List.set_cons_zero]
  refine stp EL (by
      rw [hEL]
      exact eLc_ok (items := [.int 0, .int 1, .int 2, .int 3]) rfl (by simp only [iR_eq, aCons_eq, aNil_eq, eC_eq, bind1, r4]) (by simp)
        (lcC (by rw [gN_eq]) (by simp only [wipeR, List.foldl_cons, List.foldl_nil, List.set_cons_succ, List.set_cons_zero, e2_eq, eD_eq, aCons_eq, aNil_eq, eC_eq, eV0, eVs, eVo0, eVos, bind1, q30, i0, N0])
        (lcC (by rw [gN_eq]) (by simp only [wipeR, List.foldl_cons, List.foldl_nil, List.set_cons_succ, List.set_cons_zero, e2_eq, eD_eq, aCons_eq, aNil_eq, eC_eq, eV0, eVs, eVo0, eVos, bind1, q31, i3, N1])
        (lcC (by rw [gN_eq]) (by simp only [wipeR, List.foldl_cons, List.foldl_nil, List.set_cons_succ, List.set_cons_zero, e2_eq, eD_eq, aCons_eq, aNil_eq, eC_eq, eV0, eVs, eVo0, eVos, bind1, q32, i6, N2])
        (lcC (by rw [gN_eq]) (by simp only [wipeR, List.foldl_cons, List.foldl_nil, List.set_cons_succ, List.set_cons_zero, e2_eq, eD_eq, aCons_eq, aNil_eq, eC_eq, eV0, eVs, eVo0, eVos, bind1, q33, i9, N3]) lcN))))) ?_
  simp only [List.set_cons_succ, List.set_cons_zero]
  refine stp (.bl pl) (by simp only [e2_eq, eD_eq, aCons_eq, aNil_eq, eC_eq, eV0, bind1, fc 0 (by omega), d28, m28, eqP_ii, hpl]) ?_
  simp only [List.set_cons_succ, List.set_cons_zero]
  refine stp XL (by
      rw [hXL]
      exact eLc_ok (items := [.int 0, .int 1, .int 2, .int 3]) rfl (by simp only [iR_eq, aCons_eq, aNil_eq, eC_eq, bind1, r4]) (by simp)
        (lcC (by rw [gN_eq]) (by simp only [wipeR, List.foldl_cons, List.foldl_nil, List.set_cons_succ, List.set_cons_zero, e2_eq, eD_eq, aCons_eq, aNil_eq, eC_eq, eV0, eVs, eVo0, eVos, bind1, q30, addP_ii, show (0 : Int) + 1 = 1 from rfl, show (0 : Int) + 2 = 2 from rfl, i1, i2, e0, X0])
        (lcC (by rw [gN_eq]) (by simp only [wipeR, List.foldl_cons, List.foldl_nil, List.set_cons_succ, List.set_cons_zero, e2_eq, eD_eq, aCons_eq, aNil_eq, eC_eq, eV0, eVs, eVo0, eVos, bind1, q31, addP_ii, show (3 : Int) + 1 = 4 from rfl, show (3 : Int) + 2 = 5 from rfl, i4, i5, e1, X1])
        (lcC (by rw [gN_eq]) (by simp only [wipeR, List.foldl_cons, List.foldl_nil, List.set_cons_succ, List.set_cons_zero, e2_eq, eD_eq, aCons_eq, aNil_eq, eC_eq, eV0, eVs, eVo0, eVos, bind1, q32, addP_ii, show (6 : Int) + 1 = 7 from rfl, show (6 : Int) + 2 = 8 from rfl, i7, i8, e2', X2])
        (lcC (by rw [gN_eq]) (by simp only [wipeR, List.foldl_cons, List.foldl_nil, List.set_cons_succ, List.set_cons_zero, e2_eq, eD_eq, aCons_eq, aNil_eq, eC_eq, eV0, eVs, eVo0, eVos, bind1, q33, addP_ii, show (9 : Int) + 1 = 10 from rfl, show (9 : Int) + 2 = 11 from rfl, i10, i11, e3, X3]) lcN))))) ?_
  simp only [List.set_cons_succ, List.set_cons_zero]
  refine stp (.lst [A0, A1]) (by
      exact eLc_ok (items := [.int 0, .int 1]) rfl (by simp only [iR_eq, aCons_eq, aNil_eq, eC_eq, bind1, r2]) (by simp)
        (lcC (by rw [gN_eq]) (by simp only [wipeR, List.foldl_cons, List.foldl_nil, List.set_cons_succ, List.set_cons_zero, e2_eq, eD_eq, aCons_eq, aNil_eq, eC_eq, eV0, eVs, eVo0, eVos, bind1, y0, addP_ii, e0, O0])
        (lcC (by rw [gN_eq]) (by simp only [wipeR, List.foldl_cons, List.foldl_nil, List.set_cons_succ, List.set_cons_zero, e2_eq, eD_eq, aCons_eq, aNil_eq, eC_eq, eV0, eVs, eVo0, eVos, bind1, y1, addP_ii, e1, O1]) lcN))) ?_
  simp only [List.set_cons_succ, List.set_cons_zero]
  refine stp (.lst [A2, A3]) (by
      exact eLc_ok (items := [.int 2, .int 3]) rfl (by simp only [iR_eq, aCons_eq, aNil_eq, eC_eq, bind1, r24]) (by simp)
        (lcC (by rw [gN_eq]) (by simp only [wipeR, List.foldl_cons, List.foldl_nil, List.set_cons_succ, List.set_cons_zero, e2_eq, eD_eq, aCons_eq, aNil_eq, eC_eq, eV0, eVs, eVo0, eVos, bind1, y2, e2', O2])
        (lcC (by rw [gN_eq]) (by simp only [wipeR, List.foldl_cons, List.foldl_nil, List.set_cons_succ, List.set_cons_zero, e2_eq, eD_eq, aCons_eq, aNil_eq, eC_eq, eV0, eVs, eVo0, eVos, bind1, y3, e3, O3]) lcN))) ?_
  simp only [List.set_cons_succ, List.set_cons_zero]
  refine stp (.lst [Q0, Q1]) (by
      exact eLc_ok (items := [A0, A1]) rfl (by simp only [iS_eq, eV0, eVs, bind1]; rfl) (by simp)
        (lcC (by rw [gN_eq]) (by simp only [wipeR, List.foldl_cons, List.foldl_nil, List.set_cons_succ, List.set_cons_zero, eD_eq, aCons_eq, aNil_eq, eV0, eVs, bind1, L0])
        (lcC (by rw [gN_eq]) (by simp only [wipeR, List.foldl_cons, List.foldl_nil, List.set_cons_succ, List.set_cons_zero, eD_eq, aCons_eq, aNil_eq, eV0, eVs, bind1, L1]) lcN))) ?_
  simp only [List.set_cons_succ, List.set_cons_zero]
  refine stp (.lst [Q2, Q3]) (by
      exact eLc_ok (items := [A2, A3]) rfl (by simp only [iS_eq, eV0, eVs, bind1]; rfl) (by simp)
        (lcC (by rw [gN_eq]) (by simp only [wipeR, List.foldl_cons, List.foldl_nil, List.set_cons_succ, List.set_cons_zero, eD_eq, aCons_eq, aNil_eq, eV0, eVs, bind1, E2])
        (lcC (by rw [gN_eq]) (by simp only [wipeR, List.foldl_cons, List.foldl_nil, List.set_cons_succ, List.set_cons_zero, eD_eq, aCons_eq, aNil_eq, eV0, eVs, bind1, E3]) lcN))) ?_
  simp only [List.set_cons_succ, List.set_cons_zero]
  have K1 := eLc_ok (vs := [15]) (it := iS (e2 addP (eVo 9) (eVo 10))) (ρ := [.val (.frz (ns.map PV.int)), .val (.int p), .val (.int s), .val CL, .val EL, .val (.bl pl), .val XL, .val (.lst [A0, A1]), .val (.lst [A2, A3]), .val (.lst [Q0, Q1]), .val (.lst [Q2, Q3]), .un, .un, .un, .un, .un]) (items := [Q0, Q1, Q2, Q3]) (qs := [.bl true, .bl true, .bl true, .bl true]) (tgt := gN 15) (test := cYes) (elt := eD F__law_is_left (aCons (eV 15) (aCons (eV 1) aNil))) rfl (by simp only [iS_eq, e2_eq, eVos, eVo0, bind1, ad4]; rfl) (by simp)
      (lcC (by rw [gN_eq]) (by simp only [wipeR, List.foldl_cons, List.foldl_nil, List.set_cons_succ, List.set_cons_zero, eD_eq, aCons_eq, aNil_eq, eV0, eVs, bind1, I0])
      (lcC (by rw [gN_eq]) (by simp only [wipeR, List.foldl_cons, List.foldl_nil, List.set_cons_succ, List.set_cons_zero, eD_eq, aCons_eq, aNil_eq, eV0, eVs, bind1, I1])
      (lcC (by rw [gN_eq]) (by simp only [wipeR, List.foldl_cons, List.foldl_nil, List.set_cons_succ, List.set_cons_zero, eD_eq, aCons_eq, aNil_eq, eV0, eVs, bind1, I2])
      (lcC (by rw [gN_eq]) (by simp only [wipeR, List.foldl_cons, List.foldl_nil, List.set_cons_succ, List.set_cons_zero, eD_eq, aCons_eq, aNil_eq, eV0, eVs, bind1, I3]) lcN))))
  refine skp (by simp only [tNt_eq, tB1_eq, eD_eq, aCons_eq, aNil_eq, K1, bind1, al, asB_eq, Bool.not_true]) ?_
  have K2 := eLc_ok (vs := [15]) (it := iS (eV 9)) (ρ := [.val (.frz (ns.map PV.int)), .val (.int p), .val (.int s), .val CL, .val EL, .val (.bl pl), .val XL, .val (.lst [A0, A1]), .val (.lst [A2, A3]), .val (.lst [Q0, Q1]), .val (.lst [Q2, Q3]), .un, .un, .un, .un, .un]) (items := [Q0, Q1]) (qs := [A0, A1]) (tgt := gN 15) (test := cYes) (elt := eD F_exp_of (aCons (eV 15) aNil)) rfl (by simp only [iS_eq, eV0, eVs, bind1]; rfl) (by simp)
      (lcC (by rw [gN_eq]) (by simp only [wipeR, List.foldl_cons, List.foldl_nil, List.set_cons_succ, List.set_cons_zero, eD_eq, aCons_eq, aNil_eq, eV0, eVs, bind1, B0])
      (lcC (by rw [gN_eq]) (by simp only [wipeR, List.foldl_cons, List.foldl_nil, List.set_cons_succ, List.set_cons_zero, eD_eq, aCons_eq, aNil_eq, eV0, eVs, bind1, B1]) lcN))
  have K3 := eLc_ok (vs := [15]) (it := iS (eV 10)) (ρ := [.val (.frz (ns.map PV.int)), .val (.int p), .val (.int s), .val CL, .val EL, .val (.bl pl), .val XL, .val (.lst [A0, A1]), .val (.lst [A2, A3]), .val (.lst [Q0, Q1]), .val (.lst [Q2, Q3]), .un, .un, .un, .un, .un]) (items := [Q2, Q3]) (qs := [A2, A3]) (tgt := gN 15) (test := cYes) (elt := eD F_log_of (aCons (eV 15) aNil)) rfl (by simp only [iS_eq, eV0, eVs, bind1]; rfl) (by simp)
      (lcC (by rw [gN_eq]) (by simp only [wipeR, List.foldl_cons, List.foldl_nil, List.set_cons_succ, List.set_cons_zero, eD_eq, aCons_eq, aNil_eq, eV0, eVs, bind1, B2])
      (lcC (by rw [gN_eq]) (by simp only [wipeR, List.foldl_cons, List.foldl_nil, List.set_cons_succ, List.set_cons_zero, eD_eq, aCons_eq, aNil_eq, eV0, eVs, bind1, B3]) lcN))
  refine skp (by simp only [tOr_eq, tB1_eq, e2_eq, K2, K3, eVo0, eVos, bind1, nN, nS, asB_eq, if_neg Bool.false_ne_true]) ?_
  refine stp (.int m) (by simp only [eD_eq, aCons_eq, aNil_eq, eSl_eq, oNone_eq, oSome_eq, eC_eq, eVo0, eVos, bind1, asI_eq, c2, Mn]) ?_
  simp only [List.set_cons_succ, List.set_cons_zero]
  refine stp (leftV p 0 (digs p ((x0 + 1) * (x1 + 1)) m)) (by simp only [e2_eq, eD_eq, aCons_eq, aNil_eq, eC_eq, eV0, eVs, eVo0, eVos, bind1, y0, y1, addP_ii, pr, O4]) ?_
  simp only [List.set_cons_succ, List.set_cons_zero]
  refine skp (by simp only [tB1_eq, e2_eq, eD_eq, aCons_eq, aNil_eq, eC_eq, eV0, eVs, eVo0, eVos, bind1, L4, j0, j1, V0, V1, addP_ii, O5, ne5, asB_eq]) ?_
  refine stp (.int k) (by simp only [eD_eq, aCons_eq, aNil_eq, eSl_eq, oNone_eq, oSome_eq, eC_eq, eVo0, eVos, bind1, asI_eq, c4, Kn]) ?_
  simp only [List.set_cons_succ, List.set_cons_zero]
  refine stp (leftV p (lead (digs p (x2 + x3) k)) (PM.strip (digs p (x2 + x3) k))) (by simp only [e2_eq, eD_eq, aCons_eq, aNil_eq, eC_eq, eV0, eVs, eVo0, eVos, bind1, y2, y3, addP_ii, O6]) ?_
  simp only [List.set_cons_succ, List.set_cons_zero]
  simp only [bSeq_eq, sRet_eq, e2_eq, eD_eq, aCons_eq, aNil_eq, eC_eq, eV0, eVs, eVo0, eVos, bind1, E6, j0, j1, V2, V3, mw, O7, eq8, st_ok, then_ret, res_ret]
end K85
set_option Elab.async false
set_option linter.all false
set_option maxRecDepth 100000
set_option autoImplicit false
set_option maxHeartbeats 0
namespace K85
open PySem PySem.Spec L2 PL PM
open PyProof.Rows hiding St
def topS (i : Nat) : Stmt := PySem.Challenge.pw_leftnumbers_k85_whole_products_to_sums.main.body.getD i (.Pass ⟨0, 0, 0, 0⟩)
abbrev st_is_whole : Stmt := topS 8
theorem sc_is_whole : FnScope ["thing"] ["thing"] (defScope st_is_whole) := ⟨rfl, rfl, rfl, by decide +kernel, rfl, by decide +kernel, by decide +kernel⟩
abbrev st_is_prime : Stmt := topS 9
theorem sc_is_prime : FnScope ["thing", "part"] ["thing"] (defScope st_is_prime) := ⟨rfl, rfl, rfl, by decide +kernel, rfl, by decide +kernel, by decide +kernel⟩
abbrev st_power_of : Stmt := topS 10
theorem sc_power_of : FnScope ["p", "times", "found", "k"] ["p", "times"] (defScope st_power_of) := ⟨rfl, rfl, rfl, by decide +kernel, rfl, by decide +kernel, by decide +kernel⟩
abbrev st_exponent : Stmt := topS 11
theorem sc_exponent : FnScope ["p", "number", "found", "rest", "left"] ["p", "number"] (defScope st_exponent) := ⟨rfl, rfl, rfl, by decide +kernel, rfl, by decide +kernel, by decide +kernel⟩
abbrev st_are_figures : Stmt := topS 13
theorem sc_are_figures : FnScope ["p", "figures", "one"] ["p", "figures"] (defScope st_are_figures) := ⟨rfl, rfl, rfl, by decide +kernel, rfl, by decide +kernel, by decide +kernel⟩
abbrev st_left_number : Stmt := topS 14
theorem sc_left_number : FnScope ["p", "least", "figures", "noughts"] ["p", "least", "figures"] (defScope st_left_number) := ⟨rfl, rfl, rfl, by decide +kernel, rfl, by decide +kernel, by decide +kernel⟩
abbrev st_end_of : Stmt := topS 15
theorem sc_end_of : FnScope ["one"] ["one"] (defScope st_end_of) := ⟨rfl, rfl, rfl, by decide +kernel, rfl, by decide +kernel, by decide +kernel⟩
abbrev st_known_of : Stmt := topS 16
theorem sc_known_of : FnScope ["one"] ["one"] (defScope st_known_of) := ⟨rfl, rfl, rfl, by decide +kernel, rfl, by decide +kernel, by decide +kernel⟩
abbrev st_unit_of : Stmt := topS 17
theorem sc_unit_of : FnScope ["one", "found", "digit"] ["one"] (defScope st_unit_of) := ⟨rfl, rfl, rfl, by decide +kernel, rfl, by decide +kernel, by decide +kernel⟩
abbrev st_of_whole : Stmt := topS 18
theorem sc_of_whole : FnScope ["p", "least", "number", "many", "figures", "k", "digit"] ["p", "least", "number", "many"] (defScope st_of_whole) := ⟨rfl, rfl, rfl, by decide +kernel, rfl, by decide +kernel, by decide +kernel⟩
abbrev st_turned : Stmt := topS 21
theorem sc_turned : FnScope ["number", "top", "ahead", "now", "many"] ["number", "top"] (defScope st_turned) := ⟨rfl, rfl, rfl, by decide +kernel, rfl, by decide +kernel, by decide +kernel⟩
abbrev st_is_near_one : Stmt := topS 22
theorem sc_is_near_one : FnScope ["one", "p", "least", "figures"] ["one"] (defScope st_is_near_one) := ⟨rfl, rfl, rfl, by decide +kernel, rfl, by decide +kernel, by decide +kernel⟩
abbrev st_log_of : Stmt := topS 23
theorem sc_log_of : FnScope ["one", "p", "end", "top", "above", "far", "power", "total", "n", "low", "part"] ["one"] (defScope st_log_of) := ⟨rfl, rfl, rfl, by decide +kernel, rfl, by decide +kernel, by decide +kernel⟩
abbrev st_exp_of : Stmt := topS 24
theorem sc_exp_of : FnScope ["one", "p", "least", "figures", "end", "top", "unit", "total", "part", "rise", "n", "more"] ["one"] (defScope st_exp_of) := ⟨rfl, rfl, rfl, by decide +kernel, rfl, by decide +kernel, by decide +kernel⟩
abbrev st__law_cell_at : Stmt := topS 26
theorem sc__law_cell_at : FnScope ["_law_script", "_law_k"] ["_law_script", "_law_k"] (defScope st__law_cell_at) := ⟨rfl, rfl, rfl, by decide +kernel, rfl, by decide +kernel, by decide +kernel⟩
abbrev st__law_whole : Stmt := topS 27
theorem sc__law_whole : FnScope ["_law_found"] ["_law_found"] (defScope st__law_whole) := ⟨rfl, rfl, rfl, by decide +kernel, rfl, by decide +kernel, by decide +kernel⟩
abbrev st__law_prime : Stmt := topS 28
theorem sc__law_prime : FnScope ["_law_cell", "_law_some"] ["_law_cell"] (defScope st__law_prime) := ⟨rfl, rfl, rfl, by decide +kernel, rfl, by decide +kernel, by decide +kernel⟩
abbrev st__law_power : Stmt := topS 29
theorem sc__law_power : FnScope ["_law_p", "_law_times", "_law_found", "_law_k"] ["_law_p", "_law_times"] (defScope st__law_power) := ⟨rfl, rfl, rfl, by decide +kernel, rfl, by decide +kernel, by decide +kernel⟩
abbrev st__law_is_left : Stmt := topS 30
theorem sc__law_is_left : FnScope ["_law_found", "_law_p", "_law_digit"] ["_law_found", "_law_p"] (defScope st__law_is_left) := ⟨rfl, rfl, rfl, by decide +kernel, rfl, by decide +kernel, by decide +kernel⟩
abbrev st__law_unit : Stmt := topS 31
theorem sc__law_unit : FnScope ["_law_one", "_law_found", "_law_digit"] ["_law_one"] (defScope st__law_unit) := ⟨rfl, rfl, rfl, by decide +kernel, rfl, by decide +kernel, by decide +kernel⟩
abbrev st__law_of_whole : Stmt := topS 32
theorem sc__law_of_whole : FnScope ["_law_p", "_law_least", "_law_number_here", "_law_many", "_law_figures", "_law_k"] ["_law_p", "_law_least", "_law_number_here", "_law_many"] (defScope st__law_of_whole) := ⟨rfl, rfl, rfl, by decide +kernel, rfl, by decide +kernel, by decide +kernel⟩
abbrev st__law_end : Stmt := topS 33
theorem sc__law_end : FnScope ["_law_cell", "_law_step"] ["_law_cell", "_law_step"] (defScope st__law_end) := ⟨rfl, rfl, rfl, by decide +kernel, rfl, by decide +kernel, by decide +kernel⟩
abbrev st__law_filled : Stmt := topS 34
theorem sc__law_filled : FnScope ["_law_number_here", "_law_p", "_law_more", "_law_top"] ["_law_number_here", "_law_p", "_law_more"] (defScope st__law_filled) := ⟨rfl, rfl, rfl, by decide +kernel, rfl, by decide +kernel, by decide +kernel⟩
abbrev st__law_number : Stmt := topS 35
theorem sc__law_number : FnScope ["_law_p", "_law_step", "_law_a", "_law_b", "_law_end_here", "_law_plain", "_law_number_here"] ["_law_p", "_law_step", "_law_a", "_law_b", "_law_end_here", "_law_plain"] (defScope st__law_number) := ⟨rfl, rfl, rfl, by decide +kernel, rfl, by decide +kernel, by decide +kernel⟩
abbrev st__law_value : Stmt := topS 36
theorem sc__law_value : FnScope ["_law_one"] ["_law_one"] (defScope st__law_value) := ⟨rfl, rfl, rfl, by decide +kernel, rfl, by decide +kernel, by decide +kernel⟩
abbrev st_law : Stmt := topS 37
theorem sc_law : FnScope ["_law_script", "_law_p", "_law_step", "_law_cells", "_law_ends", "_law_plain", "_law_numbers", "_law_near", "_law_small", "_law_logs", "_law_exps", "_law_end_here", "_law_product", "_law_total", "_law_k", "_law_one"] ["_law_script"] (defScope st_law) := ⟨rfl, rfl, rfl, by decide +kernel, rfl, by decide +kernel, by decide +kernel⟩
structure Tx (K : PySem.W.Frag) (mg : Str → Option Value) : Prop where
  d_is_whole : DefE K mg "is_whole" st_is_whole ["thing"]
  d_is_prime : DefE K mg "is_prime" st_is_prime ["thing"]
  d_power_of : DefE K mg "power_of" st_power_of ["p", "times"]
  d_exponent : DefE K mg "exponent" st_exponent ["p", "number"]
  d_are_figures : DefE K mg "are_figures" st_are_figures ["p", "figures"]
  d_left_number : DefE K mg "left_number" st_left_number ["p", "least", "figures"]
  d_end_of : DefE K mg "end_of" st_end_of ["one"]
  d_known_of : DefE K mg "known_of" st_known_of ["one"]
  d_unit_of : DefE K mg "unit_of" st_unit_of ["one"]
  d_of_whole : DefE K mg "of_whole" st_of_whole ["p", "least", "number", "many"]
  d_turned : DefE K mg "turned" st_turned ["number", "top"]
  d_is_near_one : DefE K mg "is_near_one" st_is_near_one ["one"]
  d_log_of : DefE K mg "log_of" st_log_of ["one"]
  d_exp_of : DefE K mg "exp_of" st_exp_of ["one"]
  d__law_cell_at : DefE K mg "_law_cell_at" st__law_cell_at ["_law_script", "_law_k"]
  d__law_whole : DefE K mg "_law_whole" st__law_whole ["_law_found"]
  d__law_prime : DefE K mg "_law_prime" st__law_prime ["_law_cell"]
  d__law_power : DefE K mg "_law_power" st__law_power ["_law_p", "_law_times"]
  d__law_is_left : DefE K mg "_law_is_left" st__law_is_left ["_law_found", "_law_p"]
  d__law_unit : DefE K mg "_law_unit" st__law_unit ["_law_one"]
  d__law_of_whole : DefE K mg "_law_of_whole" st__law_of_whole ["_law_p", "_law_least", "_law_number_here", "_law_many"]
  d__law_end : DefE K mg "_law_end" st__law_end ["_law_cell", "_law_step"]
  d__law_filled : DefE K mg "_law_filled" st__law_filled ["_law_number_here", "_law_p", "_law_more"]
  d__law_number : DefE K mg "_law_number" st__law_number ["_law_p", "_law_step", "_law_a", "_law_b", "_law_end_here", "_law_plain"]
  d__law_value : DefE K mg "_law_value" st__law_value ["_law_one"]
  n_abs : mg "abs" = none
  n_all : mg "all" = none
  n_bool : mg "bool" = none
  n_divmod : mg "divmod" = none
  n_int : mg "int" = none
  n_isinstance : mg "isinstance" = none
  n_len : mg "len" = none
  n_list : mg "list" = none
  n_min : mg "min" = none
  n_range : mg "range" = none
  n_reversed : mg "reversed" = none
  n_tuple : mg "tuple" = none
  c_MORE_TERMS : GlI mg "MORE_TERMS" 12
  c_MOST_PRIME : GlI mg "MOST_PRIME" 97
  x_NoFigures : ∃ C, ExcT K mg "NoFigures" C
  x_NoPlace : ∃ C, ExcT K mg "NoPlace" C
  x_NoPrime : ∃ C, ExcT K mg "NoPrime" C
  x_NotNear : ∃ C, ExcT K mg "NotNear" C
section
variable {P : Program} {w : World} {K : PySem.W.Frag} {mg : Str → Option Value} {base : Heap}
theorem bd_is_whole (B : Tx K mg) {f : Addr} {cdv : Value} {A : Around} {outer : List PySem.Env} {s : Shared} {H : Hp} {E : XK} (hr : Room 0 (A.deeper (envOfC "is_whole" (defScope st_is_whole) s.heap.objs.size f cdv))) :
    BJ (cxOf (L2N.CX P w) P w K mg base ["thing"] "is_whole" (defScope st_is_whole) f cdv A outer s H E) (fun cls d _ H => E cls d H) false (defBody st_is_whole) D_is_whole :=
  (b_cons (s_ret (e_and (e_isi (n := "int") B.n_isinstance (by rfl) (e_varT (pv 0)) (pe_bltn (by rfl) B.n_int (by decide +kernel) rfl)) (e_one (e_not (e_isi (n := "bool") B.n_isinstance (by rfl) (e_varT (pv 0)) (pe_bltn (by rfl) B.n_bool (by decide +kernel) rfl))))))
b_nil)
theorem ok_is_whole (B : Tx K mg) : Okd P w K mg base "is_whole" ["thing"] 1 1 false F_is_whole := def_ok B.d_is_whole sc_is_whole rfl (fun z => nomatch z) fun f cdv A outer s H E hr => bd_is_whole B hr
theorem bd_is_prime (B : Tx K mg) {f : Addr} {cdv : Value} {A : Around} {outer : List PySem.Env} {s : Shared} {H : Hp} {E : XK} (hr : Room 1 (A.deeper (envOfC "is_prime" (defScope st_is_prime) s.heap.objs.size f cdv))) :
    BJ (cxOf (L2N.CX P w) P w K mg base ["thing", "part"] "is_prime" (defScope st_is_prime) f cdv A outer s H E) (fun cls d _ H => E cls d H) false (defBody st_is_prime) D_is_prime :=
  (b_cons (s_if (t_w (w_or (t_not (t_val (e_callD (ok_is_whole B) hr (by decide) tk_of (by rfl) (a_cons (e_var (pv 0)) a_nil) (ALen.cons ALen.nil)))) (w_or (t_lt (e_varT (pv 0)) (e_s_t e_int)) (w_or1 (t_gt (e_varT (pv 0)) (e_s_t (e_glI B.c_MOST_PRIME (by rfl))))))))
(b_cons (s_ret e_bl)
b_nil)
b_nil)
(b_cons (s_ret (e_all rfl B.n_all (by rfl) (a_cons (e_f_t (e_lc (own := [("part", 1)]) rfl sc_is_prime.nd (i_rng2 B.n_range (by rfl) (a_cons (e_s_t e_int) (a_cons (e_varT (pv 0)) a_nil))) (blkOk_by (own := [("part", 1)]) (N := ["thing", "part"]) (sc := defScope st_is_prime) (by decide +kernel)) (by decide) (fun _ _ _ _ _ => (g_name (pg_name (i := 1) sc_is_prime.nd rfl (Or.inl rfl)))) (fun _ _ _ _ _ => c_nil) (fun _ _ _ _ _ => (e_ne hr.units (e_s_t (e_mod (e_varT (pv 0)) (e_varT (pv 1)))) (e_s_t e_int))))) a_nil)))
b_nil))
theorem ok_is_prime (B : Tx K mg) : Okd P w K mg base "is_prime" ["thing"] 2 1 false F_is_prime := def_ok B.d_is_prime sc_is_prime rfl (fun z => nomatch z) fun f cdv A outer s H E hr => bd_is_prime B hr
theorem bd_power_of (B : Tx K mg) {f : Addr} {cdv : Value} {A : Around} {outer : List PySem.Env} {s : Shared} {H : Hp} {E : XK} (hr : Room 0 (A.deeper (envOfC "power_of" (defScope st_power_of) s.heap.objs.size f cdv))) :
    BJ (cxOf (L2N.CX P w) P w K mg base ["p", "times", "found", "k"] "power_of" (defScope st_power_of) f cdv A outer s H E) (fun cls d _ H => E cls d H) false (defBody st_power_of) D_power_of :=
  (b_cons (s_set (i := 2) sc_power_of.nd rfl (Or.inl rfl) e_int)
(b_cons (s_for hp_of rfl (i_rng1 B.n_range (by rfl) (a_cons (e_varT (pv 1)) a_nil)) (g_name (pg_name (i := 3) sc_power_of.nd rfl (Or.inl rfl)))
(b_cons (s_augMul (i := 2) sc_power_of.nd rfl (Or.inl rfl) (e_varT (pv 0)))
b_nil))
(b_cons (s_ret (e_var (pv 2)))
b_nil)))
theorem ok_power_of (B : Tx K mg) : Okd P w K mg base "power_of" ["p", "times"] 1 2 false F_power_of := def_ok B.d_power_of sc_power_of rfl (fun z => nomatch z) fun f cdv A outer s H E hr => bd_power_of B hr
theorem bd_exponent (B : Tx K mg) {f : Addr} {cdv : Value} {A : Around} {outer : List PySem.Env} {s : Shared} {H : Hp} {E : XK} (hr : Room 0 (A.deeper (envOfC "exponent" (defScope st_exponent) s.heap.objs.size f cdv))) :
    BJ (cxOf (L2N.CX P w) P w K mg base ["p", "number", "found", "rest", "left"] "exponent" (defScope st_exponent) f cdv A outer s H E) (fun cls d _ H => E cls d H) false (defBody st_exponent) D_exponent :=
  (b_cons (s_set (i := 2) sc_exponent.nd rfl (Or.inl rfl) e_int)
(b_cons (s_to (e_divmod B.n_divmod (by rfl) (a_cons (e_varT (pv 1)) (a_cons (e_varT (pv 0)) a_nil))) (g_tup rfl (gs_cons (g_name (pg_name (i := 3) sc_exponent.nd rfl (Or.inl rfl))) (gs_cons (g_name (pg_name (i := 4) sc_exponent.nd rfl (Or.inl rfl))) gs_nil)) (gs_len (gs_len gs_len0))))
(b_cons (s_while hp_of (t_eq hr.units (e_varT (pv 4)) (e_s_t e_int))
(b_cons (s_augAdd (i := 2) sc_exponent.nd rfl (Or.inl rfl) (e_s_t e_int))
(b_cons (s_to (e_divmod B.n_divmod (by rfl) (a_cons (e_varT (pv 3)) (a_cons (e_varT (pv 0)) a_nil))) (g_tup rfl (gs_cons (g_name (pg_name (i := 3) sc_exponent.nd rfl (Or.inl rfl))) (gs_cons (g_name (pg_name (i := 4) sc_exponent.nd rfl (Or.inl rfl))) gs_nil)) (gs_len (gs_len gs_len0))))
b_nil)))
(b_cons (s_ret (e_var (pv 2)))
b_nil))))
theorem ok_exponent (B : Tx K mg) : Okd P w K mg base "exponent" ["p", "number"] 1 2 false F_exponent := def_ok B.d_exponent sc_exponent rfl (fun z => nomatch z) fun f cdv A outer s H E hr => bd_exponent B hr
theorem bd_are_figures (B : Tx K mg) {f : Addr} {cdv : Value} {A : Around} {outer : List PySem.Env} {s : Shared} {H : Hp} {E : XK} (hr : Room 1 (A.deeper (envOfC "are_figures" (defScope st_are_figures) s.heap.objs.size f cdv))) :
    BJ (cxOf (L2N.CX P w) P w K mg base ["p", "figures", "one"] "are_figures" (defScope st_are_figures) f cdv A outer s H E) (fun cls d _ H => E cls d H) false (defBody st_are_figures) D_are_figures :=
  (b_cons (s_if (t_not (t_val (e_isi2 (n := "list") (m := "tuple") B.n_isinstance (by rfl) (e_varT (pv 1)) (pe_bltn (by rfl) B.n_list (by decide +kernel) rfl) (pe_bltn (by rfl) B.n_tuple (by decide +kernel) rfl))))
(b_cons (s_ret e_bl)
b_nil)
b_nil)
(b_cons (s_ret (e_all rfl B.n_all (by rfl) (a_cons (e_f_t (e_lc (own := [("one", 2)]) rfl sc_are_figures.nd (i_seq (e_var (pv 1))) (blkOk_by (own := [("one", 2)]) (N := ["p", "figures", "one"]) (sc := defScope st_are_figures) (by decide +kernel)) (by decide) (fun _ _ _ _ _ => (g_name (pg_name (i := 2) sc_are_figures.nd rfl (Or.inl rfl)))) (fun _ _ _ _ _ => c_nil) (fun _ _ _ _ _ => (e_and (e_callD (ok_is_whole B) hr (by decide) takesN (by rfl) (a_cons (e_var (pv 2)) a_nil) (ALen.cons ALen.nil)) (e_one (e_leLt (e_s_t e_int) (e_varT (pv 2)) (e_varT (pv 0)))))))) a_nil)))
b_nil))
theorem ok_are_figures (B : Tx K mg) : Okd P w K mg base "are_figures" ["p", "figures"] 2 2 false F_are_figures := def_ok B.d_are_figures sc_are_figures rfl (fun z => nomatch z) fun f cdv A outer s H E hr => bd_are_figures B hr
theorem bd_left_number (B : Tx K mg) {f : Addr} {cdv : Value} {A : Around} {outer : List PySem.Env} {s : Shared} {H : Hp} {E : XK} (hr : Room 2 (A.deeper (envOfC "left_number" (defScope st_left_number) s.heap.objs.size f cdv))) :
    BJ (cxOf (L2N.CX P w) P w K mg base ["p", "least", "figures", "noughts"] "left_number" (defScope st_left_number) f cdv A outer s H E) (fun cls d _ H => E cls d H) false (defBody st_left_number) D_left_number :=
  (b_cons (s_if (t_not (t_val (e_callD (ok_is_prime B) hr (by decide) tk_of (by rfl) (a_cons (e_var (pv 0)) a_nil) (ALen.cons ALen.nil))))
(b_cons (s_raise B.x_NoPrime.choose_spec rfl tk_of (by rfl))
b_nil)
b_nil)
(b_cons (s_if (t_not (t_val (e_callD (ok_is_whole B) hr (by decide) tk_of (by rfl) (a_cons (e_var (pv 1)) a_nil) (ALen.cons ALen.nil))))
(b_cons (s_raise B.x_NoPlace.choose_spec rfl tk_of (by rfl))
b_nil)
b_nil)
(b_cons (s_if (t_not (t_val (e_callD (ok_are_figures B) hr (by decide) tk_of (by rfl) (a_cons (e_var (pv 0)) (a_cons (e_var (pv 2)) a_nil)) (ALen.cons (ALen.cons ALen.nil)))))
(b_cons (s_raise B.x_NoFigures.choose_spec rfl tk_of (by rfl))
b_nil)
b_nil)
(b_cons (s_set (i := 3) sc_left_number.nd rfl (Or.inl rfl) e_int)
(b_cons (s_while hp_of (t_w (w_and (t_lt (e_varT (pv 3)) (e_s_t (e_len B.n_len (by rfl) (a_cons (e_varT (pv 2)) a_nil)))) (w_and1 (t_eq hr.units (e_s_t (e_item (e_varT (pv 2)) (e_varT (pv 3)) (fun _ _ => rfl))) (e_s_t e_int)))))
(b_cons (s_augAdd (i := 3) sc_left_number.nd rfl (Or.inl rfl) (e_s_t e_int))
b_nil))
(b_cons (s_ret (e_tup (a_cons (e_var (pv 0)) (a_cons (e_add (e_varT (pv 1)) (e_varT (pv 3))) (a_cons (e_tuple B.n_tuple (by rfl) (a_cons (e_s_t (e_slice (e_varT (pv 2)) (o_some (e_var (pv 3))) o_none)) a_nil)) a_nil)))))
b_nil))))))
theorem ok_left_number (B : Tx K mg) : Okd P w K mg base "left_number" ["p", "least", "figures"] 3 3 false F_left_number := def_ok B.d_left_number sc_left_number rfl (fun z => nomatch z) fun f cdv A outer s H E hr => bd_left_number B hr
theorem bd_end_of (B : Tx K mg) {f : Addr} {cdv : Value} {A : Around} {outer : List PySem.Env} {s : Shared} {H : Hp} {E : XK} (hr : Room 0 (A.deeper (envOfC "end_of" (defScope st_end_of) s.heap.objs.size f cdv))) :
    BJ (cxOf (L2N.CX P w) P w K mg base ["one"] "end_of" (defScope st_end_of) f cdv A outer s H E) (fun cls d _ H => E cls d H) false (defBody st_end_of) D_end_of :=
  (b_cons (s_ret (e_add (e_s_t (e_item (e_varT (pv 0)) (e_s_t e_int) (fun _ _ => rfl))) (e_s_t (e_len B.n_len (by rfl) (a_cons (e_s_t (e_item (e_varT (pv 0)) (e_s_t e_int) (fun _ _ => rfl))) a_nil)))))
b_nil)
theorem ok_end_of (B : Tx K mg) : Okd P w K mg base "end_of" ["one"] 1 1 false F_end_of := def_ok B.d_end_of sc_end_of rfl (fun z => nomatch z) fun f cdv A outer s H E hr => bd_end_of B hr
theorem bd_known_of (B : Tx K mg) {f : Addr} {cdv : Value} {A : Around} {outer : List PySem.Env} {s : Shared} {H : Hp} {E : XK} (hr : Room 0 (A.deeper (envOfC "known_of" (defScope st_known_of) s.heap.objs.size f cdv))) :
    BJ (cxOf (L2N.CX P w) P w K mg base ["one"] "known_of" (defScope st_known_of) f cdv A outer s H E) (fun cls d _ H => E cls d H) false (defBody st_known_of) D_known_of :=
  (b_cons (s_ret (e_len B.n_len (by rfl) (a_cons (e_s_t (e_item (e_varT (pv 0)) (e_s_t e_int) (fun _ _ => rfl))) a_nil)))
b_nil)
theorem ok_known_of (B : Tx K mg) : Okd P w K mg base "known_of" ["one"] 1 1 false F_known_of := def_ok B.d_known_of sc_known_of rfl (fun z => nomatch z) fun f cdv A outer s H E hr => bd_known_of B hr
theorem bd_unit_of (B : Tx K mg) {f : Addr} {cdv : Value} {A : Around} {outer : List PySem.Env} {s : Shared} {H : Hp} {E : XK} (hr : Room 0 (A.deeper (envOfC "unit_of" (defScope st_unit_of) s.heap.objs.size f cdv))) :
    BJ (cxOf (L2N.CX P w) P w K mg base ["one", "found", "digit"] "unit_of" (defScope st_unit_of) f cdv A outer s H E) (fun cls d _ H => E cls d H) false (defBody st_unit_of) D_unit_of :=
  (b_cons (s_set (i := 1) sc_unit_of.nd rfl (Or.inl rfl) e_int)
(b_cons (s_for hp_of rfl (i_rev B.n_reversed (by rfl) (e_item (e_varT (pv 0)) (e_s_t e_int) (fun _ _ => rfl))) (g_name (pg_name (i := 2) sc_unit_of.nd rfl (Or.inl rfl)))
(b_cons (s_set (i := 1) sc_unit_of.nd rfl (Or.inl rfl) (e_add (e_s_t (e_mul (e_varT (pv 1)) (e_s_t (e_item (e_varT (pv 0)) (e_s_t e_int) (fun _ _ => rfl))))) (e_varT (pv 2))))
b_nil))
(b_cons (s_ret (e_var (pv 1)))
b_nil)))
theorem ok_unit_of (B : Tx K mg) : Okd P w K mg base "unit_of" ["one"] 1 1 false F_unit_of := def_ok B.d_unit_of sc_unit_of rfl (fun z => nomatch z) fun f cdv A outer s H E hr => bd_unit_of B hr
theorem bd_of_whole (B : Tx K mg) {f : Addr} {cdv : Value} {A : Around} {outer : List PySem.Env} {s : Shared} {H : Hp} {E : XK} (hr : Room 3 (A.deeper (envOfC "of_whole" (defScope st_of_whole) s.heap.objs.size f cdv))) :
    BJ (cxOf (L2N.CX P w) P w K mg base ["p", "least", "number", "many", "figures", "k", "digit"] "of_whole" (defScope st_of_whole) f cdv A outer s H E) (fun cls d _ H => E cls d H) false (defBody st_of_whole) D_of_whole :=
  (b_cons (s_setO (i := 4) sc_of_whole.nd rfl (Or.inl rfl) (e_lst a_nil))
(b_cons (s_for hp_of rfl (i_rng1 B.n_range (by rfl) (a_cons (e_varT (pv 3)) a_nil)) (g_name (pg_name (i := 5) sc_of_whole.nd rfl (Or.inl rfl)))
(b_cons (s_to (e_divmod B.n_divmod (by rfl) (a_cons (e_varT (pv 2)) (a_cons (e_varT (pv 0)) a_nil))) (g_tup rfl (gs_cons (g_name (pg_name (i := 2) sc_of_whole.nd rfl (Or.inl rfl))) (gs_cons (g_name (pg_name (i := 6) sc_of_whole.nd rfl (Or.inl rfl))) gs_nil)) (gs_len (gs_len gs_len0))))
(b_cons (s_app (i := 4) (pv 4) (e_var (pv 6)))
b_nil)))
(s_frz (i := 4) (b_cons (s_ret (e_callD (ok_left_number B) hr (by decide) tk_of (by rfl) (a_cons (e_var (pv 0)) (a_cons (e_var (pv 1)) (a_cons (e_var (pv 4)) a_nil))) (ALen.cons (ALen.cons (ALen.cons ALen.nil)))))
b_nil))))
theorem ok_of_whole (B : Tx K mg) : Okd P w K mg base "of_whole" ["p", "least", "number", "many"] 4 4 false F_of_whole := def_ok B.d_of_whole sc_of_whole rfl (fun z => nomatch z) fun f cdv A outer s H E hr => bd_of_whole B hr
theorem bd_turned (B : Tx K mg) {f : Addr} {cdv : Value} {A : Around} {outer : List PySem.Env} {s : Shared} {H : Hp} {E : XK} (hr : Room 0 (A.deeper (envOfC "turned" (defScope st_turned) s.heap.objs.size f cdv))) :
    BJ (cxOf (L2N.CX P w) P w K mg base ["number", "top", "ahead", "now", "many"] "turned" (defScope st_turned) f cdv A outer s H E) (fun cls d _ H => E cls d H) false (defBody st_turned) D_turned :=
  (b_cons (s_set (i := 2) sc_turned.nd rfl (Or.inl rfl) (e_tup (a_cons (e_var (pv 1)) (a_cons e_int a_nil))))
(b_cons (s_set (i := 3) sc_turned.nd rfl (Or.inl rfl) (e_tup (a_cons (e_mod (e_varT (pv 0)) (e_varT (pv 1))) (a_cons e_int a_nil))))
(b_cons (s_while hp_of (t_gt (e_s_t (e_item (e_varT (pv 3)) (e_s_t e_int) (fun _ _ => rfl))) (e_s_t e_int))
(b_cons (s_set (i := 4) sc_turned.nd rfl (Or.inl rfl) (e_fdiv (e_s_t (e_item (e_varT (pv 2)) (e_s_t e_int) (fun _ _ => rfl))) (e_s_t (e_item (e_varT (pv 3)) (e_s_t e_int) (fun _ _ => rfl)))))
(b_cons (s_par (i := 2) (j := 3) rfl sc_turned.nd rfl rfl (by decide) rfl rfl (a_cons (e_var (pv 3)) (a_cons (e_tup (a_cons (e_sub (e_s_t (e_item (e_varT (pv 2)) (e_s_t e_int) (fun _ _ => rfl))) (e_s_t (e_mul (e_varT (pv 4)) (e_s_t (e_item (e_varT (pv 3)) (e_s_t e_int) (fun _ _ => rfl)))))) (a_cons (e_sub (e_s_t (e_item (e_varT (pv 2)) (e_s_t e_int) (fun _ _ => rfl))) (e_s_t (e_mul (e_varT (pv 4)) (e_s_t (e_item (e_varT (pv 3)) (e_s_t e_int) (fun _ _ => rfl)))))) a_nil))) a_nil)) (by rfl))
b_nil)))
(b_cons (s_ret (e_mod (e_s_t (e_item (e_varT (pv 2)) (e_s_t e_int) (fun _ _ => rfl))) (e_varT (pv 1))))
b_nil))))
theorem ok_turned (B : Tx K mg) : Okd P w K mg base "turned" ["number", "top"] 1 2 false F_turned := def_ok B.d_turned sc_turned rfl (fun z => nomatch z) fun f cdv A outer s H E hr => bd_turned B hr
theorem bd_is_near_one (B : Tx K mg) {f : Addr} {cdv : Value} {A : Around} {outer : List PySem.Env} {s : Shared} {H : Hp} {E : XK} (hr : Room 0 (A.deeper (envOfC "is_near_one" (defScope st_is_near_one) s.heap.objs.size f cdv))) :
    BJ (cxOf (L2N.CX P w) P w K mg base ["one", "p", "least", "figures"] "is_near_one" (defScope st_is_near_one) f cdv A outer s H E) (fun cls d _ H => E cls d H) false (defBody st_is_near_one) D_is_near_one :=
  (b_cons (s_to (e_var (pv 0)) (g_tup rfl (gs_cons (g_name (pg_name (i := 1) sc_is_near_one.nd rfl (Or.inl rfl))) (gs_cons (g_name (pg_name (i := 2) sc_is_near_one.nd rfl (Or.inl rfl))) (gs_cons (g_name (pg_name (i := 3) sc_is_near_one.nd rfl (Or.inl rfl))) gs_nil))) (gs_len (gs_len (gs_len gs_len0)))))
(b_cons (s_if (t_w (w_or (t_ne hr.units (e_varT (pv 2)) (e_s_t e_int)) (w_or (t_eq hr.units (e_varT (pv 3)) (e_s_t (e_tup a_nil))) (w_or1 (t_ne hr.units (e_s_t (e_item (e_varT (pv 3)) (e_s_t e_int) (fun _ _ => rfl))) (e_s_t e_int))))))
(b_cons (s_ret e_bl)
b_nil)
b_nil)
(b_cons (s_ret (e_or (e_ne hr.units (e_varT (pv 1)) (e_s_t e_int)) (e_one (e_and (e_gt (e_s_t (e_len B.n_len (by rfl) (a_cons (e_varT (pv 3)) a_nil))) (e_s_t e_int)) (e_one (e_eq hr.units (e_s_t (e_item (e_varT (pv 3)) (e_s_t e_int) (fun _ _ => rfl))) (e_s_t e_int)))))))
b_nil)))
theorem ok_is_near_one (B : Tx K mg) : Okd P w K mg base "is_near_one" ["one"] 1 1 false F_is_near_one := def_ok B.d_is_near_one sc_is_near_one rfl (fun z => nomatch z) fun f cdv A outer s H E hr => bd_is_near_one B hr
theorem bd_log_of (B : Tx K mg) {f : Addr} {cdv : Value} {A : Around} {outer : List PySem.Env} {s : Shared} {H : Hp} {E : XK} (hr : Room 4 (A.deeper (envOfC "log_of" (defScope st_log_of) s.heap.objs.size f cdv))) :
    BJ (cxOf (L2N.CX P w) P w K mg base ["one", "p", "end", "top", "above", "far", "power", "total", "n", "low", "part"] "log_of" (defScope st_log_of) f cdv A outer s H E) (fun cls d _ H => E cls d H) false (defBody st_log_of) D_log_of :=
  (b_cons (s_if (t_not (t_val (e_callD (ok_is_near_one B) hr (by decide) tk_of (by rfl) (a_cons (e_var (pv 0)) a_nil) (ALen.cons ALen.nil))))
(b_cons (s_raise B.x_NotNear.choose_spec rfl tk_of (by rfl))
b_nil)
b_nil)
(b_cons (s_set (i := 1) sc_log_of.nd rfl (Or.inl rfl) (e_item (e_varT (pv 0)) (e_s_t e_int) (fun _ _ => rfl)))
(b_cons (s_set (i := 2) sc_log_of.nd rfl (Or.inl rfl) (e_callD (ok_known_of B) hr (by decide) tk_of (by rfl) (a_cons (e_var (pv 0)) a_nil) (ALen.cons ALen.nil)))
(b_cons (s_set (i := 3) sc_log_of.nd rfl (Or.inl rfl) (e_callD (ok_power_of B) hr (by decide) tk_of (by rfl) (a_cons (e_var (pv 1)) (a_cons (e_var (pv 2)) a_nil)) (ALen.cons (ALen.cons ALen.nil))))
(b_cons (s_set (i := 4) sc_log_of.nd rfl (Or.inl rfl) (e_sub (e_s_t (e_callD (ok_unit_of B) hr (by decide) tk_of (by rfl) (a_cons (e_var (pv 0)) a_nil) (ALen.cons ALen.nil))) (e_s_t e_int)))
(b_cons (s_set (i := 5) sc_log_of.nd rfl (Or.inl rfl) (e_mul (e_varT (pv 3)) (e_s_t (e_callD (ok_power_of B) hr (by decide) tk_of (by rfl) (a_cons (e_var (pv 1)) (a_cons (e_glI B.c_MORE_TERMS (by rfl)) a_nil)) (ALen.cons (ALen.cons ALen.nil))))))
(b_cons (s_set (i := 6) sc_log_of.nd rfl (Or.inl rfl) e_int)
(b_cons (s_set (i := 7) sc_log_of.nd rfl (Or.inl rfl) e_int)
(b_cons (s_for hp_of rfl (i_rng2 B.n_range (by rfl) (a_cons (e_s_t e_int) (a_cons (e_s_t (e_add (e_s_t (e_add (e_varT (pv 2)) (e_s_t (e_glI B.c_MORE_TERMS (by rfl))))) (e_s_t e_int))) a_nil))) (g_name (pg_name (i := 8) sc_log_of.nd rfl (Or.inl rfl)))
(b_cons (s_set (i := 6) sc_log_of.nd rfl (Or.inl rfl) (e_mod (e_s_t (e_mul (e_varT (pv 6)) (e_varT (pv 4)))) (e_varT (pv 5))))
(b_cons (s_set (i := 9) sc_log_of.nd rfl (Or.inl rfl) (e_callD (ok_power_of B) hr (by decide) tk_of (by rfl) (a_cons (e_var (pv 1)) (a_cons (e_callD (ok_exponent B) hr (by decide) tk_of (by rfl) (a_cons (e_var (pv 1)) (a_cons (e_var (pv 8)) a_nil)) (ALen.cons (ALen.cons ALen.nil))) a_nil)) (ALen.cons (ALen.cons ALen.nil))))
(b_cons (s_set (i := 10) sc_log_of.nd rfl (Or.inl rfl) (e_mul (e_s_t (e_fdiv (e_varT (pv 6)) (e_varT (pv 9)))) (e_s_t (e_callD (ok_turned B) hr (by decide) tk_of (by rfl) (a_cons (e_fdiv (e_varT (pv 8)) (e_varT (pv 9))) (a_cons (e_var (pv 3)) a_nil)) (ALen.cons (ALen.cons ALen.nil))))))
(b_cons (s_if (t_eq hr.units (e_s_t (e_mod (e_varT (pv 8)) (e_s_t e_int))) (e_s_t e_int))
(b_cons (s_augAdd (i := 7) sc_log_of.nd rfl (Or.inl rfl) (e_varT (pv 10)))
b_nil)
(b_cons (s_augSub (i := 7) sc_log_of.nd rfl (Or.inl rfl) (e_varT (pv 10)))
b_nil))
b_nil)))))
(b_cons (s_ret (e_callD (ok_of_whole B) hr (by decide) tk_of (by rfl) (a_cons (e_var (pv 1)) (a_cons e_int (a_cons (e_mod (e_varT (pv 7)) (e_varT (pv 3))) (a_cons (e_var (pv 2)) a_nil)))) (ALen.cons (ALen.cons (ALen.cons (ALen.cons ALen.nil))))))
b_nil))))))))))
theorem ok_log_of (B : Tx K mg) : Okd P w K mg base "log_of" ["one"] 5 1 false F_log_of := def_ok B.d_log_of sc_log_of rfl (fun z => nomatch z) fun f cdv A outer s H E hr => bd_log_of B hr
theorem bd_exp_of (B : Tx K mg) {f : Addr} {cdv : Value} {A : Around} {outer : List PySem.Env} {s : Shared} {H : Hp} {E : XK} (hr : Room 4 (A.deeper (envOfC "exp_of" (defScope st_exp_of) s.heap.objs.size f cdv))) :
    BJ (cxOf (L2N.CX P w) P w K mg base ["one", "p", "least", "figures", "end", "top", "unit", "total", "part", "rise", "n", "more"] "exp_of" (defScope st_exp_of) f cdv A outer s H E) (fun cls d _ H => E cls d H) false (defBody st_exp_of) D_exp_of :=
  (b_cons (s_to (e_var (pv 0)) (g_tup rfl (gs_cons (g_name (pg_name (i := 1) sc_exp_of.nd rfl (Or.inl rfl))) (gs_cons (g_name (pg_name (i := 2) sc_exp_of.nd rfl (Or.inl rfl))) (gs_cons (g_name (pg_name (i := 3) sc_exp_of.nd rfl (Or.inl rfl))) gs_nil))) (gs_len (gs_len (gs_len gs_len0)))))
(b_cons (s_if (t_w (w_or (t_lt (e_varT (pv 2)) (e_s_t e_int)) (w_or1 (t_w (w_and (t_eq hr.units (e_varT (pv 1)) (e_s_t e_int)) (w_and1 (t_lt (e_varT (pv 2)) (e_s_t e_int))))))))
(b_cons (s_raise B.x_NotNear.choose_spec rfl tk_of (by rfl))
b_nil)
b_nil)
(b_cons (s_set (i := 4) sc_exp_of.nd rfl (Or.inl rfl) (e_callD (ok_end_of B) hr (by decide) tk_of (by rfl) (a_cons (e_var (pv 0)) a_nil) (ALen.cons ALen.nil)))
(b_cons (s_set (i := 5) sc_exp_of.nd rfl (Or.inl rfl) (e_callD (ok_power_of B) hr (by decide) tk_of (by rfl) (a_cons (e_var (pv 1)) (a_cons (e_var (pv 4)) a_nil)) (ALen.cons (ALen.cons ALen.nil))))
(b_cons (s_set (i := 6) sc_exp_of.nd rfl (Or.inl rfl) (e_callD (ok_unit_of B) hr (by decide) tk_of (by rfl) (a_cons (e_var (pv 0)) a_nil) (ALen.cons ALen.nil)))
(b_cons (s_set (i := 7) sc_exp_of.nd rfl (Or.inl rfl) e_int)
(b_cons (s_set (i := 8) sc_exp_of.nd rfl (Or.inl rfl) e_int)
(b_cons (s_set (i := 9) sc_exp_of.nd rfl (Or.inl rfl) e_int)
(b_cons (s_for hp_of rfl (i_rng2 B.n_range (by rfl) (a_cons (e_s_t e_int) (a_cons (e_s_t (e_add (e_s_t (e_mul (e_s_t e_int) (e_varT (pv 4)))) (e_s_t e_int))) a_nil))) (g_name (pg_name (i := 10) sc_exp_of.nd rfl (Or.inl rfl)))
(b_cons (s_set (i := 11) sc_exp_of.nd rfl (Or.inl rfl) (e_callD (ok_exponent B) hr (by decide) tk_of (by rfl) (a_cons (e_var (pv 1)) (a_cons (e_var (pv 10)) a_nil)) (ALen.cons (ALen.cons ALen.nil))))
(b_cons (s_set (i := 8) sc_exp_of.nd rfl (Or.inl rfl) (e_mod (e_s_t (e_mul (e_s_t (e_mul (e_varT (pv 8)) (e_varT (pv 6)))) (e_s_t (e_callD (ok_turned B) hr (by decide) tk_of (by rfl) (a_cons (e_fdiv (e_varT (pv 10)) (e_s_t (e_callD (ok_power_of B) hr (by decide) tk_of (by rfl) (a_cons (e_var (pv 1)) (a_cons (e_var (pv 11)) a_nil)) (ALen.cons (ALen.cons ALen.nil))))) (a_cons (e_var (pv 5)) a_nil)) (ALen.cons (ALen.cons ALen.nil)))))) (e_varT (pv 5))))
(b_cons (s_augAdd (i := 9) sc_exp_of.nd rfl (Or.inl rfl) (e_s_t (e_sub (e_varT (pv 2)) (e_varT (pv 11)))))
(b_cons (s_if (t_lt (e_varT (pv 9)) (e_varT (pv 4)))
(b_cons (s_augAdd (i := 7) sc_exp_of.nd rfl (Or.inl rfl) (e_s_t (e_mul (e_varT (pv 8)) (e_s_t (e_callD (ok_power_of B) hr (by decide) tk_of (by rfl) (a_cons (e_var (pv 1)) (a_cons (e_var (pv 9)) a_nil)) (ALen.cons (ALen.cons ALen.nil)))))))
b_nil)
b_nil)
b_nil)))))
(b_cons (s_ret (e_callD (ok_of_whole B) hr (by decide) tk_of (by rfl) (a_cons (e_var (pv 1)) (a_cons e_int (a_cons (e_mod (e_varT (pv 7)) (e_varT (pv 5))) (a_cons (e_var (pv 4)) a_nil)))) (ALen.cons (ALen.cons (ALen.cons (ALen.cons ALen.nil))))))
b_nil))))))))))
theorem ok_exp_of (B : Tx K mg) : Okd P w K mg base "exp_of" ["one"] 5 1 false F_exp_of := def_ok B.d_exp_of sc_exp_of rfl (fun z => nomatch z) fun f cdv A outer s H E hr => bd_exp_of B hr
theorem bd__law_cell_at (B : Tx K mg) {f : Addr} {cdv : Value} {A : Around} {outer : List PySem.Env} {s : Shared} {H : Hp} {E : XK} (hr : Room 0 (A.deeper (envOfC "_law_cell_at" (defScope st__law_cell_at) s.heap.objs.size f cdv))) :
    BJ (cxOf (L2N.CX P w) P w K mg base ["_law_script", "_law_k"] "_law_cell_at" (defScope st__law_cell_at) f cdv A outer s H E) (fun cls d _ H => E cls d H) false (defBody st__law_cell_at) D__law_cell_at :=
  (b_cons (s_if (t_lt (e_varT (pv 1)) (e_s_t (e_len B.n_len (by rfl) (a_cons (e_varT (pv 0)) a_nil))))
(b_cons (s_ret (e_item (e_varT (pv 0)) (e_varT (pv 1)) (fun _ _ => rfl)))
b_nil)
b_nil)
(b_cons (s_ret e_int)
b_nil))
theorem ok__law_cell_at (B : Tx K mg) : Okd P w K mg base "_law_cell_at" ["_law_script", "_law_k"] 1 2 false F__law_cell_at := def_ok B.d__law_cell_at sc__law_cell_at rfl (fun z => nomatch z) fun f cdv A outer s H E hr => bd__law_cell_at B hr
theorem bd__law_whole (B : Tx K mg) {f : Addr} {cdv : Value} {A : Around} {outer : List PySem.Env} {s : Shared} {H : Hp} {E : XK} (hr : Room 0 (A.deeper (envOfC "_law_whole" (defScope st__law_whole) s.heap.objs.size f cdv))) :
    BJ (cxOf (L2N.CX P w) P w K mg base ["_law_found"] "_law_whole" (defScope st__law_whole) f cdv A outer s H E) (fun cls d _ H => E cls d H) false (defBody st__law_whole) D__law_whole :=
  (b_cons (s_ret (e_and (e_isi (n := "int") B.n_isinstance (by rfl) (e_varT (pv 0)) (pe_bltn (by rfl) B.n_int (by decide +kernel) rfl)) (e_one (e_not (e_isi (n := "bool") B.n_isinstance (by rfl) (e_varT (pv 0)) (pe_bltn (by rfl) B.n_bool (by decide +kernel) rfl))))))
b_nil)
theorem ok__law_whole (B : Tx K mg) : Okd P w K mg base "_law_whole" ["_law_found"] 1 1 false F__law_whole := def_ok B.d__law_whole sc__law_whole rfl (fun z => nomatch z) fun f cdv A outer s H E hr => bd__law_whole B hr
theorem bd__law_prime (B : Tx K mg) {f : Addr} {cdv : Value} {A : Around} {outer : List PySem.Env} {s : Shared} {H : Hp} {E : XK} (hr : Room 0 (A.deeper (envOfC "_law_prime" (defScope st__law_prime) s.heap.objs.size f cdv))) :
    BJ (cxOf (L2N.CX P w) P w K mg base ["_law_cell", "_law_some"] "_law_prime" (defScope st__law_prime) f cdv A outer s H E) (fun cls d _ H => E cls d H) false (defBody st__law_prime) D__law_prime :=
  (b_cons (s_set (i := 1) sc__law_prime.nd rfl (Or.inl rfl) (e_f_s (e_lst (a_cons e_int (a_cons e_int (a_cons e_int (a_cons e_int (a_cons e_int (a_cons e_int (a_cons e_int (a_cons e_int (a_cons e_int (a_cons e_int (a_cons e_int (a_cons e_int (a_cons e_int (a_cons e_int (a_cons e_int (a_cons e_int (a_cons e_int (a_cons e_int (a_cons e_int (a_cons e_int (a_cons e_int (a_cons e_int (a_cons e_int (a_cons e_int (a_cons e_int (a_cons e_int (a_cons e_int (a_cons e_int a_nil)))))))))))))))))))))))))))))))
(b_cons (s_ret (e_item (e_varT (pv 1)) (e_s_t (e_mod (e_varT (pv 0)) (e_s_t (e_len B.n_len (by rfl) (a_cons (e_varT (pv 1)) a_nil))))) (fun _ _ => rfl)))
b_nil))
theorem ok__law_prime (B : Tx K mg) : Okd P w K mg base "_law_prime" ["_law_cell"] 1 1 false F__law_prime := def_ok B.d__law_prime sc__law_prime rfl (fun z => nomatch z) fun f cdv A outer s H E hr => bd__law_prime B hr
theorem bd__law_power (B : Tx K mg) {f : Addr} {cdv : Value} {A : Around} {outer : List PySem.Env} {s : Shared} {H : Hp} {E : XK} (hr : Room 0 (A.deeper (envOfC "_law_power" (defScope st__law_power) s.heap.objs.size f cdv))) :
    BJ (cxOf (L2N.CX P w) P w K mg base ["_law_p", "_law_times", "_law_found", "_law_k"] "_law_power" (defScope st__law_power) f cdv A outer s H E) (fun cls d _ H => E cls d H) false (defBody st__law_power) D__law_power :=
  (b_cons (s_set (i := 2) sc__law_power.nd rfl (Or.inl rfl) e_int)
(b_cons (s_for hp_of rfl (i_rng1 B.n_range (by rfl) (a_cons (e_varT (pv 1)) a_nil)) (g_name (pg_name (i := 3) sc__law_power.nd rfl (Or.inl rfl)))
(b_cons (s_set (i := 2) sc__law_power.nd rfl (Or.inl rfl) (e_mul (e_varT (pv 2)) (e_varT (pv 0))))
b_nil))
(b_cons (s_ret (e_var (pv 2)))
b_nil)))
theorem ok__law_power (B : Tx K mg) : Okd P w K mg base "_law_power" ["_law_p", "_law_times"] 1 2 false F__law_power := def_ok B.d__law_power sc__law_power rfl (fun z => nomatch z) fun f cdv A outer s H E hr => bd__law_power B hr
theorem bd__law_is_left (B : Tx K mg) {f : Addr} {cdv : Value} {A : Around} {outer : List PySem.Env} {s : Shared} {H : Hp} {E : XK} (hr : Room 1 (A.deeper (envOfC "_law_is_left" (defScope st__law_is_left) s.heap.objs.size f cdv))) :
    BJ (cxOf (L2N.CX P w) P w K mg base ["_law_found", "_law_p", "_law_digit"] "_law_is_left" (defScope st__law_is_left) f cdv A outer s H E) (fun cls d _ H => E cls d H) false (defBody st__law_is_left) D__law_is_left :=
  (b_cons (s_if (t_w (w_or (t_not (t_val (e_isi (n := "tuple") B.n_isinstance (by rfl) (e_varT (pv 0)) (pe_bltn (by rfl) B.n_tuple (by decide +kernel) rfl)))) (w_or (t_ne hr.units (e_s_t (e_len B.n_len (by rfl) (a_cons (e_varT (pv 0)) a_nil))) (e_s_t e_int)) (w_or (t_not (t_val (e_callD (ok__law_whole B) hr (by decide) tk_of (by rfl) (a_cons (e_item (e_varT (pv 0)) (e_s_t e_int) (fun _ _ => rfl)) a_nil) (ALen.cons ALen.nil)))) (w_or1 (t_ne hr.units (e_s_t (e_item (e_varT (pv 0)) (e_s_t e_int) (fun _ _ => rfl))) (e_varT (pv 1))))))))
(b_cons (s_ret e_bl)
b_nil)
b_nil)
(b_cons (s_if (t_w (w_or (t_not (t_val (e_callD (ok__law_whole B) hr (by decide) tk_of (by rfl) (a_cons (e_item (e_varT (pv 0)) (e_s_t e_int) (fun _ _ => rfl)) a_nil) (ALen.cons ALen.nil)))) (w_or (t_not (t_val (e_isi (n := "tuple") B.n_isinstance (by rfl) (e_s_t (e_item (e_varT (pv 0)) (e_s_t e_int) (fun _ _ => rfl))) (pe_bltn (by rfl) B.n_tuple (by decide +kernel) rfl)))) (w_or1 (t_w (w_and (t_ne hr.units (e_s_t (e_item (e_varT (pv 0)) (e_s_t e_int) (fun _ _ => rfl))) (e_s_t (e_tup a_nil))) (w_and1 (t_eq hr.units (e_s_t (e_item (e_s_t (e_item (e_varT (pv 0)) (e_s_t e_int) (fun _ _ => rfl))) (e_s_t e_int) (fun _ _ => rfl))) (e_s_t e_int)))))))))
(b_cons (s_ret e_bl)
b_nil)
b_nil)
(b_cons (s_ret (e_all rfl B.n_all (by rfl) (a_cons (e_f_t (e_lc (own := [("_law_digit", 2)]) rfl sc__law_is_left.nd (i_seq (e_item (e_varT (pv 0)) (e_s_t e_int) (fun _ _ => rfl))) (blkOk_by (own := [("_law_digit", 2)]) (N := ["_law_found", "_law_p", "_law_digit"]) (sc := defScope st__law_is_left) (by decide +kernel)) (by decide) (fun _ _ _ _ _ => (g_name (pg_name (i := 2) sc__law_is_left.nd rfl (Or.inl rfl)))) (fun _ _ _ _ _ => c_nil) (fun _ _ _ _ _ => (e_and (e_callD (ok__law_whole B) hr (by decide) takesN (by rfl) (a_cons (e_var (pv 2)) a_nil) (ALen.cons ALen.nil)) (e_one (e_leLt (e_s_t e_int) (e_varT (pv 2)) (e_varT (pv 1)))))))) a_nil)))
b_nil)))
theorem ok__law_is_left (B : Tx K mg) : Okd P w K mg base "_law_is_left" ["_law_found", "_law_p"] 2 2 false F__law_is_left := def_ok B.d__law_is_left sc__law_is_left rfl (fun z => nomatch z) fun f cdv A outer s H E hr => bd__law_is_left B hr
theorem bd__law_unit (B : Tx K mg) {f : Addr} {cdv : Value} {A : Around} {outer : List PySem.Env} {s : Shared} {H : Hp} {E : XK} (hr : Room 0 (A.deeper (envOfC "_law_unit" (defScope st__law_unit) s.heap.objs.size f cdv))) :
    BJ (cxOf (L2N.CX P w) P w K mg base ["_law_one", "_law_found", "_law_digit"] "_law_unit" (defScope st__law_unit) f cdv A outer s H E) (fun cls d _ H => E cls d H) false (defBody st__law_unit) D__law_unit :=
  (b_cons (s_set (i := 1) sc__law_unit.nd rfl (Or.inl rfl) e_int)
(b_cons (s_for hp_of rfl (i_rev B.n_reversed (by rfl) (e_item (e_varT (pv 0)) (e_s_t e_int) (fun _ _ => rfl))) (g_name (pg_name (i := 2) sc__law_unit.nd rfl (Or.inl rfl)))
(b_cons (s_set (i := 1) sc__law_unit.nd rfl (Or.inl rfl) (e_add (e_s_t (e_mul (e_varT (pv 1)) (e_s_t (e_item (e_varT (pv 0)) (e_s_t e_int) (fun _ _ => rfl))))) (e_varT (pv 2))))
b_nil))
(b_cons (s_ret (e_var (pv 1)))
b_nil)))
theorem ok__law_unit (B : Tx K mg) : Okd P w K mg base "_law_unit" ["_law_one"] 1 1 false F__law_unit := def_ok B.d__law_unit sc__law_unit rfl (fun z => nomatch z) fun f cdv A outer s H E hr => bd__law_unit B hr
theorem bd__law_of_whole (B : Tx K mg) {f : Addr} {cdv : Value} {A : Around} {outer : List PySem.Env} {s : Shared} {H : Hp} {E : XK} (hr : Room 0 (A.deeper (envOfC "_law_of_whole" (defScope st__law_of_whole) s.heap.objs.size f cdv))) :
    BJ (cxOf (L2N.CX P w) P w K mg base ["_law_p", "_law_least", "_law_number_here", "_law_many", "_law_figures", "_law_k"] "_law_of_whole" (defScope st__law_of_whole) f cdv A outer s H E) (fun cls d _ H => E cls d H) false (defBody st__law_of_whole) D__law_of_whole :=
  (b_cons (s_setO (i := 4) sc__law_of_whole.nd rfl (Or.inl rfl) (e_lst a_nil))
(b_cons (s_for hp_of rfl (i_rng1 B.n_range (by rfl) (a_cons (e_varT (pv 3)) a_nil)) (g_name (pg_name (i := 5) sc__law_of_whole.nd rfl (Or.inl rfl)))
(b_cons (s_app (i := 4) (pv 4) (e_mod (e_varT (pv 2)) (e_varT (pv 0))))
(b_cons (s_set (i := 2) sc__law_of_whole.nd rfl (Or.inl rfl) (e_fdiv (e_varT (pv 2)) (e_varT (pv 0))))
b_nil)))
(b_cons (s_while hp_of (t_w (w_and (t_ne hr.units (e_varT (pv 4)) (e_f_t (e_lst a_nil))) (w_and1 (t_eq hr.units (e_s_t (e_item (e_varT (pv 4)) (e_s_t e_int) (fun _ _ => rfl))) (e_s_t e_int)))))
(b_cons (s_setO (i := 4) sc__law_of_whole.nd rfl (Or.inl rfl) (e_sliceL (e_varT (pv 4)) (o_some e_int) o_none))
(b_cons (s_set (i := 1) sc__law_of_whole.nd rfl (Or.inl rfl) (e_add (e_varT (pv 1)) (e_s_t e_int)))
b_nil)))
(b_cons (s_ret (e_tup (a_cons (e_var (pv 0)) (a_cons (e_var (pv 1)) (a_cons (e_tuple B.n_tuple (by rfl) (a_cons (e_varT (pv 4)) a_nil)) a_nil)))))
b_nil))))
theorem ok__law_of_whole (B : Tx K mg) : Okd P w K mg base "_law_of_whole" ["_law_p", "_law_least", "_law_number_here", "_law_many"] 1 4 false F__law_of_whole := def_ok B.d__law_of_whole sc__law_of_whole rfl (fun z => nomatch z) fun f cdv A outer s H E hr => bd__law_of_whole B hr
theorem bd__law_end (B : Tx K mg) {f : Addr} {cdv : Value} {A : Around} {outer : List PySem.Env} {s : Shared} {H : Hp} {E : XK} (hr : Room 0 (A.deeper (envOfC "_law_end" (defScope st__law_end) s.heap.objs.size f cdv))) :
    BJ (cxOf (L2N.CX P w) P w K mg base ["_law_cell", "_law_step"] "_law_end" (defScope st__law_end) f cdv A outer s H E) (fun cls d _ H => E cls d H) false (defBody st__law_end) D__law_end :=
  (b_cons (s_ret (e_add (e_varT (pv 1)) (e_s_t (e_mod (e_s_t (e_fdiv (e_varT (pv 0)) (e_s_t e_int))) (e_s_t (e_item (e_f_t (e_lst (a_cons (e_sub (e_s_t e_int) (e_varT (pv 1))) (a_cons (e_sub (e_s_t e_int) (e_varT (pv 1))) a_nil)))) (e_s_t (e_int1 B.n_int (by rfl) (a_cons (e_s_t (e_eq hr.units (e_s_t (e_mod (e_varT (pv 0)) (e_s_t e_int))) (e_s_t e_int))) a_nil))) (fun _ _ => rfl)))))))
b_nil)
theorem ok__law_end (B : Tx K mg) : Okd P w K mg base "_law_end" ["_law_cell", "_law_step"] 1 2 false F__law_end := def_ok B.d__law_end sc__law_end rfl (fun z => nomatch z) fun f cdv A outer s H E hr => bd__law_end B hr
theorem bd__law_filled (B : Tx K mg) {f : Addr} {cdv : Value} {A : Around} {outer : List PySem.Env} {s : Shared} {H : Hp} {E : XK} (hr : Room 0 (A.deeper (envOfC "_law_filled" (defScope st__law_filled) s.heap.objs.size f cdv))) :
    BJ (cxOf (L2N.CX P w) P w K mg base ["_law_number_here", "_law_p", "_law_more", "_law_top"] "_law_filled" (defScope st__law_filled) f cdv A outer s H E) (fun cls d _ H => E cls d H) false (defBody st__law_filled) D__law_filled :=
  (b_cons (s_set (i := 3) sc__law_filled.nd rfl (Or.inl rfl) e_int)
(b_cons (s_while hp_of (t_le (e_varT (pv 3)) (e_varT (pv 0)))
(b_cons (s_set (i := 3) sc__law_filled.nd rfl (Or.inl rfl) (e_mul (e_varT (pv 3)) (e_varT (pv 1))))
b_nil))
(b_cons (s_ret (e_add (e_varT (pv 0)) (e_s_t (e_mul (e_varT (pv 3)) (e_varT (pv 2))))))
b_nil)))
theorem ok__law_filled (B : Tx K mg) : Okd P w K mg base "_law_filled" ["_law_number_here", "_law_p", "_law_more"] 1 3 false F__law_filled := def_ok B.d__law_filled sc__law_filled rfl (fun z => nomatch z) fun f cdv A outer s H E hr => bd__law_filled B hr
theorem bd__law_number (B : Tx K mg) {f : Addr} {cdv : Value} {A : Around} {outer : List PySem.Env} {s : Shared} {H : Hp} {E : XK} (hr : Room 1 (A.deeper (envOfC "_law_number" (defScope st__law_number) s.heap.objs.size f cdv))) :
    BJ (cxOf (L2N.CX P w) P w K mg base ["_law_p", "_law_step", "_law_a", "_law_b", "_law_end_here", "_law_plain", "_law_number_here"] "_law_number" (defScope st__law_number) f cdv A outer s H E) (fun cls d _ H => E cls d H) false (defBody st__law_number) D__law_number :=
  (b_cons (s_set (i := 6) sc__law_number.nd rfl (Or.inl rfl) (e_add (e_s_t (e_abs B.n_abs (by rfl) (a_cons (e_s_t (e_add (e_s_t (e_mul (e_varT (pv 2)) (e_s_t (e_pow (e_s_t e_int) (e_s_t e_int))))) (e_s_t (e_mul (e_s_t (e_fdiv (e_varT (pv 3)) (e_s_t e_int))) (e_s_t (e_pow (e_s_t e_int) (e_s_t e_int))))))) a_nil))) (e_s_t (e_mul (e_s_t (e_fdiv (e_s_t (e_callD (ok__law_power B) hr (by decide) tk_of (by rfl) (a_cons (e_var (pv 0)) (a_cons (e_var (pv 4)) a_nil)) (ALen.cons (ALen.cons ALen.nil)))) (e_s_t e_int))) (e_s_t (e_mod (e_varT (pv 3)) (e_s_t e_int)))))))
(b_cons (s_if (t_val (e_var (pv 5)))
(b_cons (s_set (i := 6) sc__law_number.nd rfl (Or.inl rfl) (e_callD (ok__law_filled B) hr (by decide) tk_of (by rfl) (a_cons (e_abs B.n_abs (by rfl) (a_cons (e_varT (pv 2)) a_nil)) (a_cons (e_var (pv 0)) (a_cons (e_var (pv 6)) a_nil))) (ALen.cons (ALen.cons (ALen.cons ALen.nil)))))
b_nil)
b_nil)
(b_cons (s_ret (e_mod (e_s_t (e_mul (e_varT (pv 6)) (e_s_t (e_callD (ok__law_power B) hr (by decide) tk_of (by rfl) (a_cons (e_var (pv 0)) (a_cons (e_var (pv 1)) a_nil)) (ALen.cons (ALen.cons ALen.nil)))))) (e_s_t (e_callD (ok__law_power B) hr (by decide) tk_of (by rfl) (a_cons (e_var (pv 0)) (a_cons (e_var (pv 4)) a_nil)) (ALen.cons (ALen.cons ALen.nil))))))
b_nil)))
theorem ok__law_number (B : Tx K mg) : Okd P w K mg base "_law_number" ["_law_p", "_law_step", "_law_a", "_law_b", "_law_end_here", "_law_plain"] 2 6 false F__law_number := def_ok B.d__law_number sc__law_number rfl (fun z => nomatch z) fun f cdv A outer s H E hr => bd__law_number B hr
theorem bd__law_value (B : Tx K mg) {f : Addr} {cdv : Value} {A : Around} {outer : List PySem.Env} {s : Shared} {H : Hp} {E : XK} (hr : Room 1 (A.deeper (envOfC "_law_value" (defScope st__law_value) s.heap.objs.size f cdv))) :
    BJ (cxOf (L2N.CX P w) P w K mg base ["_law_one"] "_law_value" (defScope st__law_value) f cdv A outer s H E) (fun cls d _ H => E cls d H) false (defBody st__law_value) D__law_value :=
  (b_cons (s_ret (e_mul (e_s_t (e_callD (ok__law_unit B) hr (by decide) tk_of (by rfl) (a_cons (e_var (pv 0)) a_nil) (ALen.cons ALen.nil))) (e_s_t (e_callD (ok__law_power B) hr (by decide) tk_of (by rfl) (a_cons (e_item (e_varT (pv 0)) (e_s_t e_int) (fun _ _ => rfl)) (a_cons (e_item (e_varT (pv 0)) (e_s_t e_int) (fun _ _ => rfl)) a_nil)) (ALen.cons (ALen.cons ALen.nil))))))
b_nil)
theorem ok__law_value (B : Tx K mg) : Okd P w K mg base "_law_value" ["_law_one"] 2 1 false F__law_value := def_ok B.d__law_value sc__law_value rfl (fun z => nomatch z) fun f cdv A outer s H E hr => bd__law_value B hr
theorem bd_law (B : Tx K mg) {f : Addr} {cdv : Value} {A : Around} {outer : List PySem.Env} {s : Shared} {H : Hp} {E : XK} (hr : Room 5 (A.deeper (envOfC "law" (defScope st_law) s.heap.objs.size f cdv))) :
    BJ (cxOf (L2N.CX P w) P w K mg base ["_law_script", "_law_p", "_law_step", "_law_cells", "_law_ends", "_law_plain", "_law_numbers", "_law_near", "_law_small", "_law_logs", "_law_exps", "_law_end_here", "_law_product", "_law_total", "_law_k", "_law_one"] "law" (defScope st_law) f cdv A outer s H E) (fun cls d _ H => E cls d H) false (defBody st_law) D_law :=
  (b_cons (s_set (i := 1) sc_law.nd rfl (Or.inr rfl) (e_callD (ok__law_prime B) hr (by decide) tk_of (by rfl) (a_cons (e_callD (ok__law_cell_at B) hr (by decide) tk_of (by rfl) (a_cons (e_var (pv 0)) (a_cons e_int a_nil)) (ALen.cons (ALen.cons ALen.nil))) a_nil) (ALen.cons ALen.nil)))
(b_cons (s_set (i := 2) sc_law.nd rfl (Or.inr rfl) (e_add (e_s_t e_int) (e_s_t (e_int1 B.n_int (by rfl) (a_cons (e_s_t (e_eq hr.units (e_varT (pv 1)) (e_s_t e_int))) a_nil)))))
(b_cons (s_set (i := 3) sc_law.nd rfl (Or.inr rfl) (e_f_s (e_lc (own := [("_law_k", 14)]) rfl sc_law.nd (i_rng2 B.n_range (by rfl) (a_cons (e_s_t e_int) (a_cons (e_s_t e_int) a_nil))) (blkOk_by (own := [("_law_k", 14)]) (N := ["_law_script", "_law_p", "_law_step", "_law_cells", "_law_ends", "_law_plain", "_law_numbers", "_law_near", "_law_small", "_law_logs", "_law_exps", "_law_end_here", "_law_product", "_law_total", "_law_k", "_law_one"]) (sc := defScope st_law) (by decide +kernel)) (by decide) (fun _ _ _ _ _ => (g_name (pg_name (i := 14) sc_law.nd rfl (Or.inl rfl)))) (fun _ _ _ _ _ => c_nil) (fun _ _ _ _ _ => (e_callD (ok__law_cell_at B) hr (by decide) takesN (by rfl) (a_cons (e_var (pv 0)) (a_cons (e_var (pv 14)) a_nil)) (ALen.cons (ALen.cons ALen.nil)))))))
(b_cons (s_set (i := 4) sc_law.nd rfl (Or.inr rfl) (e_f_s (e_lc (own := [("_law_k", 14)]) rfl sc_law.nd (i_rng1 B.n_range (by rfl) (a_cons (e_s_t e_int) a_nil)) (blkOk_by (own := [("_law_k", 14)]) (N := ["_law_script", "_law_p", "_law_step", "_law_cells", "_law_ends", "_law_plain", "_law_numbers", "_law_near", "_law_small", "_law_logs", "_law_exps", "_law_end_here", "_law_product", "_law_total", "_law_k", "_law_one"]) (sc := defScope st_law) (by decide +kernel)) (by decide) (fun _ _ _ _ _ => (g_name (pg_name (i := 14) sc_law.nd rfl (Or.inl rfl)))) (fun _ _ _ _ _ => c_nil) (fun _ _ _ _ _ => (e_callD (ok__law_end B) hr (by decide) takesN (by rfl) (a_cons (e_item (e_varT (pv 3)) (e_s_t (e_mul (e_s_t e_int) (e_varT (pv 14)))) (fun _ _ => rfl)) (a_cons (e_var (pv 2)) a_nil)) (ALen.cons (ALen.cons ALen.nil)))))))
(b_cons (s_set (i := 5) sc_law.nd rfl (Or.inr rfl) (e_eq hr.units (e_s_t (e_mod (e_s_t (e_fdiv (e_s_t (e_callD (ok__law_cell_at B) hr (by decide) tk_of (by rfl) (a_cons (e_var (pv 0)) (a_cons e_int a_nil)) (ALen.cons (ALen.cons ALen.nil)))) (e_s_t e_int))) (e_s_t e_int))) (e_s_t e_int)))
(b_cons (s_set (i := 6) sc_law.nd rfl (Or.inr rfl) (e_f_s (e_lc (own := [("_law_k", 14)]) rfl sc_law.nd (i_rng1 B.n_range (by rfl) (a_cons (e_s_t e_int) a_nil)) (blkOk_by (own := [("_law_k", 14)]) (N := ["_law_script", "_law_p", "_law_step", "_law_cells", "_law_ends", "_law_plain", "_law_numbers", "_law_near", "_law_small", "_law_logs", "_law_exps", "_law_end_here", "_law_product", "_law_total", "_law_k", "_law_one"]) (sc := defScope st_law) (by decide +kernel)) (by decide) (fun _ _ _ _ _ => (g_name (pg_name (i := 14) sc_law.nd rfl (Or.inl rfl)))) (fun _ _ _ _ _ => c_nil) (fun _ _ _ _ _ => (e_callD (ok__law_number B) hr (by decide) takesN (by rfl) (a_cons (e_var (pv 1)) (a_cons (e_var (pv 2)) (a_cons (e_item (e_varT (pv 3)) (e_s_t (e_add (e_s_t (e_mul (e_s_t e_int) (e_varT (pv 14)))) (e_s_t e_int))) (fun _ _ => rfl)) (a_cons (e_item (e_varT (pv 3)) (e_s_t (e_add (e_s_t (e_mul (e_s_t e_int) (e_varT (pv 14)))) (e_s_t e_int))) (fun _ _ => rfl)) (a_cons (e_item (e_varT (pv 4)) (e_varT (pv 14)) (fun _ _ => rfl)) (a_cons (e_var (pv 5)) a_nil)))))) (ALen.cons (ALen.cons (ALen.cons (ALen.cons (ALen.cons (ALen.cons ALen.nil)))))))))))
(b_cons (lcs (i := 7) (own := [("_law_k", 14)]) (q_lc (by decide)) rfl sc_law.nd rfl rfl (sw_true rfl rfl rfl (by decide +kernel)) (i_rng1 B.n_range (by rfl) (a_cons (e_s_t e_int) a_nil)) (blkOk_by (own := [("_law_k", 14)]) (N := ["_law_script", "_law_p", "_law_step", "_law_cells", "_law_ends", "_law_plain", "_law_numbers", "_law_near", "_law_small", "_law_logs", "_law_exps", "_law_end_here", "_law_product", "_law_total", "_law_k", "_law_one"]) (sc := defScope st_law) (by decide +kernel)) (fun _ _ _ _ _ => (g_name (pg_name (i := 14) sc_law.nd rfl (Or.inl rfl)))) (fun _ _ _ _ _ => c_nil) (fun _ _ _ _ _ => (e_callD (ok__law_of_whole B) hr (by decide) takesN (by rfl) (a_cons (e_var (pv 1)) (a_cons e_int (a_cons (e_add (e_s_t (e_item (e_varT (pv 6)) (e_varT (pv 14)) (fun _ _ => rfl))) (e_s_t e_int)) (a_cons (e_item (e_varT (pv 4)) (e_varT (pv 14)) (fun _ _ => rfl)) a_nil)))) (ALen.cons (ALen.cons (ALen.cons (ALen.cons ALen.nil)))))))
(b_cons (lcs (i := 8) (own := [("_law_k", 14)]) (q_lc (by decide)) rfl sc_law.nd rfl rfl (sw_true rfl rfl rfl (by decide +kernel)) (i_rng2 B.n_range (by rfl) (a_cons (e_s_t e_int) (a_cons (e_s_t e_int) a_nil))) (blkOk_by (own := [("_law_k", 14)]) (N := ["_law_script", "_law_p", "_law_step", "_law_cells", "_law_ends", "_law_plain", "_law_numbers", "_law_near", "_law_small", "_law_logs", "_law_exps", "_law_end_here", "_law_product", "_law_total", "_law_k", "_law_one"]) (sc := defScope st_law) (by decide +kernel)) (fun _ _ _ _ _ => (g_name (pg_name (i := 14) sc_law.nd rfl (Or.inl rfl)))) (fun _ _ _ _ _ => c_nil) (fun _ _ _ _ _ => (e_callD (ok__law_of_whole B) hr (by decide) takesN (by rfl) (a_cons (e_var (pv 1)) (a_cons e_int (a_cons (e_item (e_varT (pv 6)) (e_varT (pv 14)) (fun _ _ => rfl)) (a_cons (e_item (e_varT (pv 4)) (e_varT (pv 14)) (fun _ _ => rfl)) a_nil)))) (ALen.cons (ALen.cons (ALen.cons (ALen.cons ALen.nil)))))))
(b_cons (lcs (i := 9) (own := [("_law_one", 15)]) (q_lc (by decide)) rfl sc_law.nd rfl rfl (sw_true rfl rfl rfl (by decide +kernel)) (i_seq (e_var (pv 7))) (blkOk_by (own := [("_law_one", 15)]) (N := ["_law_script", "_law_p", "_law_step", "_law_cells", "_law_ends", "_law_plain", "_law_numbers", "_law_near", "_law_small", "_law_logs", "_law_exps", "_law_end_here", "_law_product", "_law_total", "_law_k", "_law_one"]) (sc := defScope st_law) (by decide +kernel)) (fun _ _ _ _ _ => (g_name (pg_name (i := 15) sc_law.nd rfl (Or.inl rfl)))) (fun _ _ _ _ _ => c_nil) (fun _ _ _ _ _ => (e_callD (ok_log_of B) hr (by decide) takesN (by rfl) (a_cons (e_var (pv 15)) a_nil) (ALen.cons ALen.nil))))
(b_cons (lcs (i := 10) (own := [("_law_one", 15)]) (q_lc (by decide)) rfl sc_law.nd rfl rfl (sw_true rfl rfl rfl (by decide +kernel)) (i_seq (e_var (pv 8))) (blkOk_by (own := [("_law_one", 15)]) (N := ["_law_script", "_law_p", "_law_step", "_law_cells", "_law_ends", "_law_plain", "_law_numbers", "_law_near", "_law_small", "_law_logs", "_law_exps", "_law_end_here", "_law_product", "_law_total", "_law_k", "_law_one"]) (sc := defScope st_law) (by decide +kernel)) (fun _ _ _ _ _ => (g_name (pg_name (i := 15) sc_law.nd rfl (Or.inl rfl)))) (fun _ _ _ _ _ => c_nil) (fun _ _ _ _ _ => (e_callD (ok_exp_of B) hr (by decide) takesN (by rfl) (a_cons (e_var (pv 15)) a_nil) (ALen.cons ALen.nil))))
(b_cons (s_if (t_not (t_val (e_all rfl B.n_all (by rfl) (a_cons (e_f_t (e_lc (own := [("_law_one", 15)]) rfl sc_law.nd (i_seq (e_add (e_varT (pv 9)) (e_varT (pv 10)))) (blkOk_by (own := [("_law_one", 15)]) (N := ["_law_script", "_law_p", "_law_step", "_law_cells", "_law_ends", "_law_plain", "_law_numbers", "_law_near", "_law_small", "_law_logs", "_law_exps", "_law_end_here", "_law_product", "_law_total", "_law_k", "_law_one"]) (sc := defScope st_law) (by decide +kernel)) (by decide) (fun _ _ _ _ _ => (g_name (pg_name (i := 15) sc_law.nd rfl (Or.inl rfl)))) (fun _ _ _ _ _ => c_nil) (fun _ _ _ _ _ => (e_callD (ok__law_is_left B) hr (by decide) takesN (by rfl) (a_cons (e_var (pv 15)) (a_cons (e_var (pv 1)) a_nil)) (ALen.cons (ALen.cons ALen.nil)))))) a_nil))))
(b_cons (s_ret e_bl)
b_nil)
b_nil)
(b_cons (s_if (t_w (w_or (t_ne hr.units (e_f_t (e_lc (own := [("_law_one", 15)]) rfl sc_law.nd (i_seq (e_var (pv 9))) (blkOk_by (own := [("_law_one", 15)]) (N := ["_law_script", "_law_p", "_law_step", "_law_cells", "_law_ends", "_law_plain", "_law_numbers", "_law_near", "_law_small", "_law_logs", "_law_exps", "_law_end_here", "_law_product", "_law_total", "_law_k", "_law_one"]) (sc := defScope st_law) (by decide +kernel)) (by decide) (fun _ _ _ _ _ => (g_name (pg_name (i := 15) sc_law.nd rfl (Or.inl rfl)))) (fun _ _ _ _ _ => c_nil) (fun _ _ _ _ _ => (e_callD (ok_exp_of B) hr (by decide) takesN (by rfl) (a_cons (e_var (pv 15)) a_nil) (ALen.cons ALen.nil))))) (e_varT (pv 7))) (w_or1 (t_ne hr.units (e_f_t (e_lc (own := [("_law_one", 15)]) rfl sc_law.nd (i_seq (e_var (pv 10))) (blkOk_by (own := [("_law_one", 15)]) (N := ["_law_script", "_law_p", "_law_step", "_law_cells", "_law_ends", "_law_plain", "_law_numbers", "_law_near", "_law_small", "_law_logs", "_law_exps", "_law_end_here", "_law_product", "_law_total", "_law_k", "_law_one"]) (sc := defScope st_law) (by decide +kernel)) (by decide) (fun _ _ _ _ _ => (g_name (pg_name (i := 15) sc_law.nd rfl (Or.inl rfl)))) (fun _ _ _ _ _ => c_nil) (fun _ _ _ _ _ => (e_callD (ok_log_of B) hr (by decide) takesN (by rfl) (a_cons (e_var (pv 15)) a_nil) (ALen.cons ALen.nil))))) (e_varT (pv 8))))))
(b_cons (s_ret e_bl)
b_nil)
b_nil)
(b_cons (s_set (i := 11) sc_law.nd rfl (Or.inl rfl) (e_min1 rfl B.n_min (by rfl) (a_cons (e_s_t (e_slice (e_varT (pv 4)) o_none (o_some e_int))) a_nil)))
(b_cons (s_set (i := 12) sc_law.nd rfl (Or.inl rfl) (e_callD (ok__law_of_whole B) hr (by decide) tk_of (by rfl) (a_cons (e_var (pv 1)) (a_cons e_int (a_cons (e_mul (e_s_t (e_add (e_s_t (e_item (e_varT (pv 6)) (e_s_t e_int) (fun _ _ => rfl))) (e_s_t e_int))) (e_s_t (e_add (e_s_t (e_item (e_varT (pv 6)) (e_s_t e_int) (fun _ _ => rfl))) (e_s_t e_int)))) (a_cons (e_var (pv 11)) a_nil)))) (ALen.cons (ALen.cons (ALen.cons (ALen.cons ALen.nil))))))
(b_cons (s_if (t_ne hr.units (e_s_t (e_callD (ok_log_of B) hr (by decide) tk_of (by rfl) (a_cons (e_var (pv 12)) a_nil) (ALen.cons ALen.nil))) (e_s_t (e_callD (ok__law_of_whole B) hr (by decide) tk_of (by rfl) (a_cons (e_var (pv 1)) (a_cons e_int (a_cons (e_add (e_s_t (e_callD (ok__law_value B) hr (by decide) tk_of (by rfl) (a_cons (e_item (e_varT (pv 9)) (e_s_t e_int) (fun _ _ => rfl)) a_nil) (ALen.cons ALen.nil))) (e_s_t (e_callD (ok__law_value B) hr (by decide) tk_of (by rfl) (a_cons (e_item (e_varT (pv 9)) (e_s_t e_int) (fun _ _ => rfl)) a_nil) (ALen.cons ALen.nil)))) (a_cons (e_var (pv 11)) a_nil)))) (ALen.cons (ALen.cons (ALen.cons (ALen.cons ALen.nil)))))))
(b_cons (s_ret e_bl)
b_nil)
b_nil)
(b_cons (s_set (i := 11) sc_law.nd rfl (Or.inl rfl) (e_min1 rfl B.n_min (by rfl) (a_cons (e_s_t (e_slice (e_varT (pv 4)) (o_some e_int) o_none)) a_nil)))
(b_cons (s_set (i := 13) sc_law.nd rfl (Or.inl rfl) (e_callD (ok__law_of_whole B) hr (by decide) tk_of (by rfl) (a_cons (e_var (pv 1)) (a_cons e_int (a_cons (e_add (e_s_t (e_item (e_varT (pv 6)) (e_s_t e_int) (fun _ _ => rfl))) (e_s_t (e_item (e_varT (pv 6)) (e_s_t e_int) (fun _ _ => rfl)))) (a_cons (e_var (pv 11)) a_nil)))) (ALen.cons (ALen.cons (ALen.cons (ALen.cons ALen.nil))))))
(b_cons (s_ret (e_eq hr.units (e_s_t (e_callD (ok_exp_of B) hr (by decide) tk_of (by rfl) (a_cons (e_var (pv 13)) a_nil) (ALen.cons ALen.nil))) (e_s_t (e_callD (ok__law_of_whole B) hr (by decide) tk_of (by rfl) (a_cons (e_var (pv 1)) (a_cons e_int (a_cons (e_mul (e_s_t (e_callD (ok__law_value B) hr (by decide) tk_of (by rfl) (a_cons (e_item (e_varT (pv 10)) (e_s_t e_int) (fun _ _ => rfl)) a_nil) (ALen.cons ALen.nil))) (e_s_t (e_callD (ok__law_value B) hr (by decide) tk_of (by rfl) (a_cons (e_item (e_varT (pv 10)) (e_s_t e_int) (fun _ _ => rfl)) a_nil) (ALen.cons ALen.nil)))) (a_cons (e_var (pv 11)) a_nil)))) (ALen.cons (ALen.cons (ALen.cons (ALen.cons ALen.nil))))))))
b_nil))))))))))))))))))
end
theorem all_mk {l : PySem.W.OpenLaw} {w : World} {K : PySem.W.Frag} {h : Heap} {mg : Str → Option Value} {fa : Addr} (X : K.In h) (G : h.Ns mainGlobals mg) (hfa : mg "law" = some (.ref fa))
    {f0 : Addr} {od0 an0 : Option Addr} {sl0 : Array (Option Value)} {oc0 kV0 dc0 pm0 cd0 ct0 : Value}
    {f1 : Addr} {od1 an1 : Option Addr} {sl1 : Array (Option Value)} {oc1 kV1 dc1 pm1 cd1 ct1 : Value}
    {f2 : Addr} {od2 an2 : Option Addr} {sl2 : Array (Option Value)} {oc2 kV2 dc2 pm2 cd2 ct2 : Value}
    {f3 : Addr} {od3 an3 : Option Addr} {sl3 : Array (Option Value)} {oc3 kV3 dc3 pm3 cd3 ct3 : Value}
    {f4 : Addr} {od4 an4 : Option Addr} {sl4 : Array (Option Value)} {oc4 kV4 dc4 pm4 cd4 ct4 : Value}
    {f5 : Addr} {od5 an5 : Option Addr} {sl5 : Array (Option Value)} {oc5 kV5 dc5 pm5 cd5 ct5 : Value}
    {f6 : Addr} {od6 an6 : Option Addr} {sl6 : Array (Option Value)} {oc6 kV6 dc6 pm6 cd6 ct6 : Value}
    {f7 : Addr} {od7 an7 : Option Addr} {sl7 : Array (Option Value)} {oc7 kV7 dc7 pm7 cd7 ct7 : Value}
    {f8 : Addr} {od8 an8 : Option Addr} {sl8 : Array (Option Value)} {oc8 kV8 dc8 pm8 cd8 ct8 : Value}
    {f9 : Addr} {od9 an9 : Option Addr} {sl9 : Array (Option Value)} {oc9 kV9 dc9 pm9 cd9 ct9 : Value}
    {f10 : Addr} {od10 an10 : Option Addr} {sl10 : Array (Option Value)} {oc10 kV10 dc10 pm10 cd10 ct10 : Value}
    {f11 : Addr} {od11 an11 : Option Addr} {sl11 : Array (Option Value)} {oc11 kV11 dc11 pm11 cd11 ct11 : Value}
    {f12 : Addr} {od12 an12 : Option Addr} {sl12 : Array (Option Value)} {oc12 kV12 dc12 pm12 cd12 ct12 : Value}
    {f13 : Addr} {od13 an13 : Option Addr} {sl13 : Array (Option Value)} {oc13 kV13 dc13 pm13 cd13 ct13 : Value}
    {f14 : Addr} {od14 an14 : Option Addr} {sl14 : Array (Option Value)} {oc14 kV14 dc14 pm14 cd14 ct14 : Value}
    {f15 : Addr} {od15 an15 : Option Addr} {sl15 : Array (Option Value)} {oc15 kV15 dc15 pm15 cd15 ct15 : Value}
    {f16 : Addr} {od16 an16 : Option Addr} {sl16 : Array (Option Value)} {oc16 kV16 dc16 pm16 cd16 ct16 : Value}
    {f17 : Addr} {od17 an17 : Option Addr} {sl17 : Array (Option Value)} {oc17 kV17 dc17 pm17 cd17 ct17 : Value}
    {f18 : Addr} {od18 an18 : Option Addr} {sl18 : Array (Option Value)} {oc18 kV18 dc18 pm18 cd18 ct18 : Value}
    {f19 : Addr} {od19 an19 : Option Addr} {sl19 : Array (Option Value)} {oc19 kV19 dc19 pm19 cd19 ct19 : Value}
    {f20 : Addr} {od20 an20 : Option Addr} {sl20 : Array (Option Value)} {oc20 kV20 dc20 pm20 cd20 ct20 : Value}
    {f21 : Addr} {od21 an21 : Option Addr} {sl21 : Array (Option Value)} {oc21 kV21 dc21 pm21 cd21 ct21 : Value}
    {f22 : Addr} {od22 an22 : Option Addr} {sl22 : Array (Option Value)} {oc22 kV22 dc22 pm22 cd22 ct22 : Value}
    {f23 : Addr} {od23 an23 : Option Addr} {sl23 : Array (Option Value)} {oc23 kV23 dc23 pm23 cd23 ct23 : Value}
    {f24 : Addr} {od24 an24 : Option Addr} {sl24 : Array (Option Value)} {oc24 kV24 dc24 pm24 cd24 ct24 : Value}
    {f25 : Addr} {od25 an25 : Option Addr} {sl25 : Array (Option Value)} {oc25 kV25 dc25 pm25 cd25 ct25 : Value}
    {t0 : Tok}
    {t1 : Tok}
    {C0 : Addr}
    {C1 : Addr}
    {C2 : Addr}
    {C3 : Addr}
    (a0 : PySem.W.nsIn K mainGlobals "is_whole" = some (some (.ref f0))) (l0 : K.lookup f0 = some ⟨oc0, od0, .func (PySem.W.fnOf "is_whole" "is_whole" (defArgs st_is_whole) (defBody st_is_whole) (defScope st_is_whole) .none kV0 dc0 pm0 an0 cd0 ct0), sl0⟩) (c0 : PySem.W.codeIn K cd0 "is_whole" = true) (k0 : PySem.W.keepIn K (.ref f0) = true)
    (a1 : PySem.W.nsIn K mainGlobals "is_prime" = some (some (.ref f1))) (l1 : K.lookup f1 = some ⟨oc1, od1, .func (PySem.W.fnOf "is_prime" "is_prime" (defArgs st_is_prime) (defBody st_is_prime) (defScope st_is_prime) .none kV1 dc1 pm1 an1 cd1 ct1), sl1⟩) (c1 : PySem.W.codeIn K cd1 "is_prime" = true) (k1 : PySem.W.keepIn K (.ref f1) = true)
    (a2 : PySem.W.nsIn K mainGlobals "power_of" = some (some (.ref f2))) (l2 : K.lookup f2 = some ⟨oc2, od2, .func (PySem.W.fnOf "power_of" "power_of" (defArgs st_power_of) (defBody st_power_of) (defScope st_power_of) .none kV2 dc2 pm2 an2 cd2 ct2), sl2⟩) (c2 : PySem.W.codeIn K cd2 "power_of" = true) (k2 : PySem.W.keepIn K (.ref f2) = true)
    (a3 : PySem.W.nsIn K mainGlobals "exponent" = some (some (.ref f3))) (l3 : K.lookup f3 = some ⟨oc3, od3, .func (PySem.W.fnOf "exponent" "exponent" (defArgs st_exponent) (defBody st_exponent) (defScope st_exponent) .none kV3 dc3 pm3 an3 cd3 ct3), sl3⟩) (c3 : PySem.W.codeIn K cd3 "exponent" = true) (k3 : PySem.W.keepIn K (.ref f3) = true)
    (a4 : PySem.W.nsIn K mainGlobals "are_figures" = some (some (.ref f4))) (l4 : K.lookup f4 = some ⟨oc4, od4, .func (PySem.W.fnOf "are_figures" "are_figures" (defArgs st_are_figures) (defBody st_are_figures) (defScope st_are_figures) .none kV4 dc4 pm4 an4 cd4 ct4), sl4⟩) (c4 : PySem.W.codeIn K cd4 "are_figures" = true) (k4 : PySem.W.keepIn K (.ref f4) = true)
    (a5 : PySem.W.nsIn K mainGlobals "left_number" = some (some (.ref f5))) (l5 : K.lookup f5 = some ⟨oc5, od5, .func (PySem.W.fnOf "left_number" "left_number" (defArgs st_left_number) (defBody st_left_number) (defScope st_left_number) .none kV5 dc5 pm5 an5 cd5 ct5), sl5⟩) (c5 : PySem.W.codeIn K cd5 "left_number" = true) (k5 : PySem.W.keepIn K (.ref f5) = true)
    (a6 : PySem.W.nsIn K mainGlobals "end_of" = some (some (.ref f6))) (l6 : K.lookup f6 = some ⟨oc6, od6, .func (PySem.W.fnOf "end_of" "end_of" (defArgs st_end_of) (defBody st_end_of) (defScope st_end_of) .none kV6 dc6 pm6 an6 cd6 ct6), sl6⟩) (c6 : PySem.W.codeIn K cd6 "end_of" = true) (k6 : PySem.W.keepIn K (.ref f6) = true)
    (a7 : PySem.W.nsIn K mainGlobals "known_of" = some (some (.ref f7))) (l7 : K.lookup f7 = some ⟨oc7, od7, .func (PySem.W.fnOf "known_of" "known_of" (defArgs st_known_of) (defBody st_known_of) (defScope st_known_of) .none kV7 dc7 pm7 an7 cd7 ct7), sl7⟩) (c7 : PySem.W.codeIn K cd7 "known_of" = true) (k7 : PySem.W.keepIn K (.ref f7) = true)
    (a8 : PySem.W.nsIn K mainGlobals "unit_of" = some (some (.ref f8))) (l8 : K.lookup f8 = some ⟨oc8, od8, .func (PySem.W.fnOf "unit_of" "unit_of" (defArgs st_unit_of) (defBody st_unit_of) (defScope st_unit_of) .none kV8 dc8 pm8 an8 cd8 ct8), sl8⟩) (c8 : PySem.W.codeIn K cd8 "unit_of" = true) (k8 : PySem.W.keepIn K (.ref f8) = true)
    (a9 : PySem.W.nsIn K mainGlobals "of_whole" = some (some (.ref f9))) (l9 : K.lookup f9 = some ⟨oc9, od9, .func (PySem.W.fnOf "of_whole" "of_whole" (defArgs st_of_whole) (defBody st_of_whole) (defScope st_of_whole) .none kV9 dc9 pm9 an9 cd9 ct9), sl9⟩) (c9 : PySem.W.codeIn K cd9 "of_whole" = true) (k9 : PySem.W.keepIn K (.ref f9) = true)
    (a10 : PySem.W.nsIn K mainGlobals "turned" = some (some (.ref f10))) (l10 : K.lookup f10 = some ⟨oc10, od10, .func (PySem.W.fnOf "turned" "turned" (defArgs st_turned) (defBody st_turned) (defScope st_turned) .none kV10 dc10 pm10 an10 cd10 ct10), sl10⟩) (c10 : PySem.W.codeIn K cd10 "turned" = true) (k10 : PySem.W.keepIn K (.ref f10) = true)
    (a11 : PySem.W.nsIn K mainGlobals "is_near_one" = some (some (.ref f11))) (l11 : K.lookup f11 = some ⟨oc11, od11, .func (PySem.W.fnOf "is_near_one" "is_near_one" (defArgs st_is_near_one) (defBody st_is_near_one) (defScope st_is_near_one) .none kV11 dc11 pm11 an11 cd11 ct11), sl11⟩) (c11 : PySem.W.codeIn K cd11 "is_near_one" = true) (k11 : PySem.W.keepIn K (.ref f11) = true)
    (a12 : PySem.W.nsIn K mainGlobals "log_of" = some (some (.ref f12))) (l12 : K.lookup f12 = some ⟨oc12, od12, .func (PySem.W.fnOf "log_of" "log_of" (defArgs st_log_of) (defBody st_log_of) (defScope st_log_of) .none kV12 dc12 pm12 an12 cd12 ct12), sl12⟩) (c12 : PySem.W.codeIn K cd12 "log_of" = true) (k12 : PySem.W.keepIn K (.ref f12) = true)
    (a13 : PySem.W.nsIn K mainGlobals "exp_of" = some (some (.ref f13))) (l13 : K.lookup f13 = some ⟨oc13, od13, .func (PySem.W.fnOf "exp_of" "exp_of" (defArgs st_exp_of) (defBody st_exp_of) (defScope st_exp_of) .none kV13 dc13 pm13 an13 cd13 ct13), sl13⟩) (c13 : PySem.W.codeIn K cd13 "exp_of" = true) (k13 : PySem.W.keepIn K (.ref f13) = true)
    (a14 : PySem.W.nsIn K mainGlobals "_law_cell_at" = some (some (.ref f14))) (l14 : K.lookup f14 = some ⟨oc14, od14, .func (PySem.W.fnOf "_law_cell_at" "_law_cell_at" (defArgs st__law_cell_at) (defBody st__law_cell_at) (defScope st__law_cell_at) .none kV14 dc14 pm14 an14 cd14 ct14), sl14⟩) (c14 : PySem.W.codeIn K cd14 "_law_cell_at" = true) (k14 : PySem.W.keepIn K (.ref f14) = true)
    (a15 : PySem.W.nsIn K mainGlobals "_law_whole" = some (some (.ref f15))) (l15 : K.lookup f15 = some ⟨oc15, od15, .func (PySem.W.fnOf "_law_whole" "_law_whole" (defArgs st__law_whole) (defBody st__law_whole) (defScope st__law_whole) .none kV15 dc15 pm15 an15 cd15 ct15), sl15⟩) (c15 : PySem.W.codeIn K cd15 "_law_whole" = true) (k15 : PySem.W.keepIn K (.ref f15) = true)
    (a16 : PySem.W.nsIn K mainGlobals "_law_prime" = some (some (.ref f16))) (l16 : K.lookup f16 = some ⟨oc16, od16, .func (PySem.W.fnOf "_law_prime" "_law_prime" (defArgs st__law_prime) (defBody st__law_prime) (defScope st__law_prime) .none kV16 dc16 pm16 an16 cd16 ct16), sl16⟩) (c16 : PySem.W.codeIn K cd16 "_law_prime" = true) (k16 : PySem.W.keepIn K (.ref f16) = true)
    (a17 : PySem.W.nsIn K mainGlobals "_law_power" = some (some (.ref f17))) (l17 : K.lookup f17 = some ⟨oc17, od17, .func (PySem.W.fnOf "_law_power" "_law_power" (defArgs st__law_power) (defBody st__law_power) (defScope st__law_power) .none kV17 dc17 pm17 an17 cd17 ct17), sl17⟩) (c17 : PySem.W.codeIn K cd17 "_law_power" = true) (k17 : PySem.W.keepIn K (.ref f17) = true)
    (a18 : PySem.W.nsIn K mainGlobals "_law_is_left" = some (some (.ref f18))) (l18 : K.lookup f18 = some ⟨oc18, od18, .func (PySem.W.fnOf "_law_is_left" "_law_is_left" (defArgs st__law_is_left) (defBody st__law_is_left) (defScope st__law_is_left) .none kV18 dc18 pm18 an18 cd18 ct18), sl18⟩) (c18 : PySem.W.codeIn K cd18 "_law_is_left" = true) (k18 : PySem.W.keepIn K (.ref f18) = true)
    (a19 : PySem.W.nsIn K mainGlobals "_law_unit" = some (some (.ref f19))) (l19 : K.lookup f19 = some ⟨oc19, od19, .func (PySem.W.fnOf "_law_unit" "_law_unit" (defArgs st__law_unit) (defBody st__law_unit) (defScope st__law_unit) .none kV19 dc19 pm19 an19 cd19 ct19), sl19⟩) (c19 : PySem.W.codeIn K cd19 "_law_unit" = true) (k19 : PySem.W.keepIn K (.ref f19) = true)
    (a20 : PySem.W.nsIn K mainGlobals "_law_of_whole" = some (some (.ref f20))) (l20 : K.lookup f20 = some ⟨oc20, od20, .func (PySem.W.fnOf "_law_of_whole" "_law_of_whole" (defArgs st__law_of_whole) (defBody st__law_of_whole) (defScope st__law_of_whole) .none kV20 dc20 pm20 an20 cd20 ct20), sl20⟩) (c20 : PySem.W.codeIn K cd20 "_law_of_whole" = true) (k20 : PySem.W.keepIn K (.ref f20) = true)
    (a21 : PySem.W.nsIn K mainGlobals "_law_end" = some (some (.ref f21))) (l21 : K.lookup f21 = some ⟨oc21, od21, .func (PySem.W.fnOf "_law_end" "_law_end" (defArgs st__law_end) (defBody st__law_end) (defScope st__law_end) .none kV21 dc21 pm21 an21 cd21 ct21), sl21⟩) (c21 : PySem.W.codeIn K cd21 "_law_end" = true) (k21 : PySem.W.keepIn K (.ref f21) = true)
    (a22 : PySem.W.nsIn K mainGlobals "_law_filled" = some (some (.ref f22))) (l22 : K.lookup f22 = some ⟨oc22, od22, .func (PySem.W.fnOf "_law_filled" "_law_filled" (defArgs st__law_filled) (defBody st__law_filled) (defScope st__law_filled) .none kV22 dc22 pm22 an22 cd22 ct22), sl22⟩) (c22 : PySem.W.codeIn K cd22 "_law_filled" = true) (k22 : PySem.W.keepIn K (.ref f22) = true)
    (a23 : PySem.W.nsIn K mainGlobals "_law_number" = some (some (.ref f23))) (l23 : K.lookup f23 = some ⟨oc23, od23, .func (PySem.W.fnOf "_law_number" "_law_number" (defArgs st__law_number) (defBody st__law_number) (defScope st__law_number) .none kV23 dc23 pm23 an23 cd23 ct23), sl23⟩) (c23 : PySem.W.codeIn K cd23 "_law_number" = true) (k23 : PySem.W.keepIn K (.ref f23) = true)
    (a24 : PySem.W.nsIn K mainGlobals "_law_value" = some (some (.ref f24))) (l24 : K.lookup f24 = some ⟨oc24, od24, .func (PySem.W.fnOf "_law_value" "_law_value" (defArgs st__law_value) (defBody st__law_value) (defScope st__law_value) .none kV24 dc24 pm24 an24 cd24 ct24), sl24⟩) (c24 : PySem.W.codeIn K cd24 "_law_value" = true) (k24 : PySem.W.keepIn K (.ref f24) = true)
    (a25 : PySem.W.nsIn K mainGlobals "law" = some (some (.ref f25))) (l25 : K.lookup f25 = some ⟨oc25, od25, .func (PySem.W.fnOf "law" "law" (defArgs st_law) (defBody st_law) (defScope st_law) .none kV25 dc25 pm25 an25 cd25 ct25), sl25⟩) (c25 : PySem.W.codeIn K cd25 "law" = true) (k25 : PySem.W.keepIn K (.ref f25) = true)
    (z0 : PySem.W.nsIn K mainGlobals "abs" = some none)
    (z1 : PySem.W.nsIn K mainGlobals "all" = some none)
    (z2 : PySem.W.nsIn K mainGlobals "bool" = some none)
    (z3 : PySem.W.nsIn K mainGlobals "divmod" = some none)
    (z4 : PySem.W.nsIn K mainGlobals "int" = some none)
    (z5 : PySem.W.nsIn K mainGlobals "isinstance" = some none)
    (z6 : PySem.W.nsIn K mainGlobals "len" = some none)
    (z7 : PySem.W.nsIn K mainGlobals "list" = some none)
    (z8 : PySem.W.nsIn K mainGlobals "min" = some none)
    (z9 : PySem.W.nsIn K mainGlobals "range" = some none)
    (z10 : PySem.W.nsIn K mainGlobals "reversed" = some none)
    (z11 : PySem.W.nsIn K mainGlobals "tuple" = some none)
    (g0 : PySem.W.nsIn K mainGlobals "MORE_TERMS" = some (some (.int 12 t0)))
    (g1 : PySem.W.nsIn K mainGlobals "MOST_PRIME" = some (some (.int 97 t1)))
    (xa0 : PySem.W.nsIn K mainGlobals "NoFigures" = some (some (.ref C0))) (xe0 : PySem.W.excIn K C0 [.type "ValueError", .type "Exception", .type "BaseException", .type "object"] "ValueError.__new__" = true) (xk0 : PySem.W.keepIn K (.ref C0) = true) (xs0 : PySem.W.subIn K (.ref C0) (.type "BaseException") = some true) (xt0 : PySem.W.typeIn K (.ref C0) = some (.type "type"))
    (xa1 : PySem.W.nsIn K mainGlobals "NoPlace" = some (some (.ref C1))) (xe1 : PySem.W.excIn K C1 [.type "ValueError", .type "Exception", .type "BaseException", .type "object"] "ValueError.__new__" = true) (xk1 : PySem.W.keepIn K (.ref C1) = true) (xs1 : PySem.W.subIn K (.ref C1) (.type "BaseException") = some true) (xt1 : PySem.W.typeIn K (.ref C1) = some (.type "type"))
    (xa2 : PySem.W.nsIn K mainGlobals "NoPrime" = some (some (.ref C2))) (xe2 : PySem.W.excIn K C2 [.type "ValueError", .type "Exception", .type "BaseException", .type "object"] "ValueError.__new__" = true) (xk2 : PySem.W.keepIn K (.ref C2) = true) (xs2 : PySem.W.subIn K (.ref C2) (.type "BaseException") = some true) (xt2 : PySem.W.typeIn K (.ref C2) = some (.type "type"))
    (xa3 : PySem.W.nsIn K mainGlobals "NotNear" = some (some (.ref C3))) (xe3 : PySem.W.excIn K C3 [.type "ValueError", .type "Exception", .type "BaseException", .type "object"] "ValueError.__new__" = true) (xk3 : PySem.W.keepIn K (.ref C3) = true) (xs3 : PySem.W.subIn K (.ref C3) (.type "BaseException") = some true) (xt3 : PySem.W.typeIn K (.ref C3) = some (.type "type"))
    : ∃ fd : FuncData, (∀ (s : Shared) (v : Value), BindsTo s fd ⟨[v], []⟩ [("_law_script", v)]) ∧ ∀ base : Heap, K.In base → base.Ns mainGlobals mg → FnOk l.prog w K mg base (L2N.CX l.prog w) 6 fa fd ["_law_script"] (spLaw K) := by
  have e := hfa.symm.trans (PySem.W.mg_of X G a25)
  cases e
  have B : Tx K mg := ⟨defE_mk X G a0 l0 c0 k0 fun _ _ _ _ _ _ us hl => match us, hl with | [_], _ => rfl,
    defE_mk X G a1 l1 c1 k1 fun _ _ _ _ _ _ us hl => match us, hl with | [_], _ => rfl,
    defE_mk X G a2 l2 c2 k2 fun _ _ _ _ _ _ us hl => match us, hl with | [_, _], _ => rfl,
    defE_mk X G a3 l3 c3 k3 fun _ _ _ _ _ _ us hl => match us, hl with | [_, _], _ => rfl,
    defE_mk X G a4 l4 c4 k4 fun _ _ _ _ _ _ us hl => match us, hl with | [_, _], _ => rfl,
    defE_mk X G a5 l5 c5 k5 fun _ _ _ _ _ _ us hl => match us, hl with | [_, _, _], _ => rfl,
    defE_mk X G a6 l6 c6 k6 fun _ _ _ _ _ _ us hl => match us, hl with | [_], _ => rfl,
    defE_mk X G a7 l7 c7 k7 fun _ _ _ _ _ _ us hl => match us, hl with | [_], _ => rfl,
    defE_mk X G a8 l8 c8 k8 fun _ _ _ _ _ _ us hl => match us, hl with | [_], _ => rfl,
    defE_mk X G a9 l9 c9 k9 fun _ _ _ _ _ _ us hl => match us, hl with | [_, _, _, _], _ => rfl,
    defE_mk X G a10 l10 c10 k10 fun _ _ _ _ _ _ us hl => match us, hl with | [_, _], _ => rfl,
    defE_mk X G a11 l11 c11 k11 fun _ _ _ _ _ _ us hl => match us, hl with | [_], _ => rfl,
    defE_mk X G a12 l12 c12 k12 fun _ _ _ _ _ _ us hl => match us, hl with | [_], _ => rfl,
    defE_mk X G a13 l13 c13 k13 fun _ _ _ _ _ _ us hl => match us, hl with | [_], _ => rfl,
    defE_mk X G a14 l14 c14 k14 fun _ _ _ _ _ _ us hl => match us, hl with | [_, _], _ => rfl,
    defE_mk X G a15 l15 c15 k15 fun _ _ _ _ _ _ us hl => match us, hl with | [_], _ => rfl,
    defE_mk X G a16 l16 c16 k16 fun _ _ _ _ _ _ us hl => match us, hl with | [_], _ => rfl,
    defE_mk X G a17 l17 c17 k17 fun _ _ _ _ _ _ us hl => match us, hl with | [_, _], _ => rfl,
    defE_mk X G a18 l18 c18 k18 fun _ _ _ _ _ _ us hl => match us, hl with | [_, _], _ => rfl,
    defE_mk X G a19 l19 c19 k19 fun _ _ _ _ _ _ us hl => match us, hl with | [_], _ => rfl,
    defE_mk X G a20 l20 c20 k20 fun _ _ _ _ _ _ us hl => match us, hl with | [_, _, _, _], _ => rfl,
    defE_mk X G a21 l21 c21 k21 fun _ _ _ _ _ _ us hl => match us, hl with | [_, _], _ => rfl,
    defE_mk X G a22 l22 c22 k22 fun _ _ _ _ _ _ us hl => match us, hl with | [_, _, _], _ => rfl,
    defE_mk X G a23 l23 c23 k23 fun _ _ _ _ _ _ us hl => match us, hl with | [_, _, _, _, _, _], _ => rfl,
    defE_mk X G a24 l24 c24 k24 fun _ _ _ _ _ _ us hl => match us, hl with | [_], _ => rfl,
    PySem.W.mg_none_of X G z0,
    PySem.W.mg_none_of X G z1,
    PySem.W.mg_none_of X G z2,
    PySem.W.mg_none_of X G z3,
    PySem.W.mg_none_of X G z4,
    PySem.W.mg_none_of X G z5,
    PySem.W.mg_none_of X G z6,
    PySem.W.mg_none_of X G z7,
    PySem.W.mg_none_of X G z8,
    PySem.W.mg_none_of X G z9,
    PySem.W.mg_none_of X G z10,
    PySem.W.mg_none_of X G z11,
    glI_mk X G g0,
    glI_mk X G g1,
    excE_mk X G xa0 xe0 xk0 xs0 xt0,
    excE_mk X G xa1 xe1 xk1 xs1 xt1,
    excE_mk X G xa2 xe2 xk2 xs2 xt2,
    excE_mk X G xa3 xe3 xk3 xs3 xt3⟩
  exact ⟨_, fun s v => .of_eq rfl, fun base _ _ => law_impB law_true (fn_mk (fun_mk (st := st_law) l25 c25 k25) sc_law rfl (fun z => nomatch z) fun cdv A outer s H E hr => bd_law B hr)⟩
end K85
open PySem PySem.W PyProof.Rows
set_option maxHeartbeats 0 in
theorem PySem.Challenge.cw_leftnumbers_k85_whole_products_to_sums_holds : PySem.Challenge.rw_leftnumbers_k85_whole_products_to_sums.Holds := by
  w_on; o_law; k_head; (case hw => w_witness2)
  k_fill
  refine L2.walk_ofB (l := PySem.Challenge.rw_leftnumbers_k85_whole_products_to_sums) (n := 63) (k := 6) (x := "_law_script") (CX := fun w => L2N.CX PySem.Challenge.rw_leftnumbers_k85_whole_products_to_sums.prog w) (sp := fun w => PL.spLaw _) rfl (by decide) rfl ⟨rfl, by decide, by decide⟩ (fun w h Y => PySem.W.kIn_of Y) ?F (fun _ _ a ns hl hB hO hS => ⟨a, ns, rfl, hS, hO, hl, hB, fun _ _ e => e⟩) (fun _ _ _ _ _ h => PL.cx_none h)
  case F =>
    intro w mg fa h KX G hmg
    refine' K85.all_mk KX G hmg ?pl_a0 ?pl_l0 ?pl_c0 ?pl_k0 ?pl_a1 ?pl_l1 ?pl_c1 ?pl_k1 ?pl_a2 ?pl_l2 ?pl_c2 ?pl_k2 ?pl_a3 ?pl_l3 ?pl_c3 ?pl_k3 ?pl_a4 ?pl_l4 ?pl_c4 ?pl_k4 ?pl_a5 ?pl_l5 ?pl_c5 ?pl_k5 ?pl_a6 ?pl_l6 ?pl_c6 ?pl_k6 ?pl_a7 ?pl_l7 ?pl_c7 ?pl_k7 ?pl_a8 ?pl_l8 ?pl_c8 ?pl_k8 ?pl_a9 ?pl_l9 ?pl_c9 ?pl_k9 ?pl_a10 ?pl_l10 ?pl_c10 ?pl_k10 ?pl_a11 ?pl_l11 ?pl_c11 ?pl_k11 ?pl_a12 ?pl_l12 ?pl_c12 ?pl_k12 ?pl_a13 ?pl_l13 ?pl_c13 ?pl_k13 ?pl_a14 ?pl_l14 ?pl_c14 ?pl_k14 ?pl_a15 ?pl_l15 ?pl_c15 ?pl_k15 ?pl_a16 ?pl_l16 ?pl_c16 ?pl_k16 ?pl_a17 ?pl_l17 ?pl_c17 ?pl_k17 ?pl_a18 ?pl_l18 ?pl_c18 ?pl_k18 ?pl_a19 ?pl_l19 ?pl_c19 ?pl_k19 ?pl_a20 ?pl_l20 ?pl_c20 ?pl_k20 ?pl_a21 ?pl_l21 ?pl_c21 ?pl_k21 ?pl_a22 ?pl_l22 ?pl_c22 ?pl_k22 ?pl_a23 ?pl_l23 ?pl_c23 ?pl_k23 ?pl_a24 ?pl_l24 ?pl_c24 ?pl_k24 ?pl_a25 ?pl_l25 ?pl_c25 ?pl_k25 ?pl_z0 ?pl_z1 ?pl_z2 ?pl_z3 ?pl_z4 ?pl_z5 ?pl_z6 ?pl_z7 ?pl_z8 ?pl_z9 ?pl_z10 ?pl_z11 ?pl_g0 ?pl_g1 ?pl_xa0 ?pl_xe0 ?pl_xk0 ?pl_xs0 ?pl_xt0 ?pl_xa1 ?pl_xe1 ?pl_xk1 ?pl_xs1 ?pl_xt1 ?pl_xa2 ?pl_xe2 ?pl_xk2 ?pl_xs2 ?pl_xt2 ?pl_xa3 ?pl_xe3 ?pl_xk3 ?pl_xs3 ?pl_xt3
    (case pl_a0 => k_is)
    (case pl_l0 => k_is)
    (case pl_c0 => k_is)
    (case pl_k0 => k_is)
    (case pl_a1 => k_is)
    (case pl_l1 => k_is)
    (case pl_c1 => k_is)
    (case pl_k1 => k_is)
    (case pl_a2 => k_is)
    (case pl_l2 => k_is)
    (case pl_c2 => k_is)
    (case pl_k2 => k_is)
    (case pl_a3 => k_is)
    (case pl_l3 => k_is)
    (case pl_c3 => k_is)
    (case pl_k3 => k_is)
    (case pl_a4 => k_is)
    (case pl_l4 => k_is)
    (case pl_c4 => k_is)
    (case pl_k4 => k_is)
    (case pl_a5 => k_is)
    (case pl_l5 => k_is)
    (case pl_c5 => k_is)
    (case pl_k5 => k_is)
    (case pl_a6 => k_is)
    (case pl_l6 => k_is)
    (case pl_c6 => k_is)
    (case pl_k6 => k_is)
    (case pl_a7 => k_is)
    (case pl_l7 => k_is)
    (case pl_c7 => k_is)
    (case pl_k7 => k_is)
    (case pl_a8 => k_is)
    (case pl_l8 => k_is)
    (case pl_c8 => k_is)
    (case pl_k8 => k_is)
    (case pl_a9 => k_is)
    (case pl_l9 => k_is)
    (case pl_c9 => k_is)
    (case pl_k9 => k_is)
    (case pl_a10 => k_is)
    (case pl_l10 => k_is)
    (case pl_c10 => k_is)
    (case pl_k10 => k_is)
    (case pl_a11 => k_is)
    (case pl_l11 => k_is)
    (case pl_c11 => k_is)
    (case pl_k11 => k_is)
    (case pl_a12 => k_is)
    (case pl_l12 => k_is)
    (case pl_c12 => k_is)
    (case pl_k12 => k_is)
    (case pl_a13 => k_is)
    (case pl_l13 => k_is)
    (case pl_c13 => k_is)
    (case pl_k13 => k_is)
    (case pl_a14 => k_is)
    (case pl_l14 => k_is)
    (case pl_c14 => k_is)
    (case pl_k14 => k_is)
    (case pl_a15 => k_is)
    (case pl_l15 => k_is)
    (case pl_c15 => k_is)
    (case pl_k15 => k_is)
    (case pl_a16 => k_is)
    (case pl_l16 => k_is)
    (case pl_c16 => k_is)
    (case pl_k16 => k_is)
    (case pl_a17 => k_is)
    (case pl_l17 => k_is)
    (case pl_c17 => k_is)
    (case pl_k17 => k_is)
    (case pl_a18 => k_is)
    (case pl_l18 => k_is)
    (case pl_c18 => k_is)
    (case pl_k18 => k_is)
    (case pl_a19 => k_is)
    (case pl_l19 => k_is)
    (case pl_c19 => k_is)
    (case pl_k19 => k_is)
    (case pl_a20 => k_is)
    (case pl_l20 => k_is)
    (case pl_c20 => k_is)
    (case pl_k20 => k_is)
    (case pl_a21 => k_is)
    (case pl_l21 => k_is)
    (case pl_c21 => k_is)
    (case pl_k21 => k_is)
    (case pl_a22 => k_is)
    (case pl_l22 => k_is)
    (case pl_c22 => k_is)
    (case pl_k22 => k_is)
    (case pl_a23 => k_is)
    (case pl_l23 => k_is)
    (case pl_c23 => k_is)
    (case pl_k23 => k_is)
    (case pl_a24 => k_is)
    (case pl_l24 => k_is)
    (case pl_c24 => k_is)
    (case pl_k24 => k_is)
    (case pl_a25 => k_is)
    (case pl_l25 => k_is)
    (case pl_c25 => k_is)
    (case pl_k25 => k_is)
    (case pl_z0 => k_is)
    (case pl_z1 => k_is)
    (case pl_z2 => k_is)
    (case pl_z3 => k_is)
    (case pl_z4 => k_is)
    (case pl_z5 => k_is)
    (case pl_z6 => k_is)
    (case pl_z7 => k_is)
    (case pl_z8 => k_is)
    (case pl_z9 => k_is)
    (case pl_z10 => k_is)
    (case pl_z11 => k_is)
    (case pl_g0 => k_is)
    (case pl_g1 => k_is)
    (case pl_xa0 => k_is)
    (case pl_xe0 => k_exc)
    (case pl_xk0 => k_is)
    (case pl_xs0 => k_is)
    (case pl_xt0 => k_is)
    (case pl_xa1 => k_is)
    (case pl_xe1 => k_exc)
    (case pl_xk1 => k_is)
    (case pl_xs1 => k_is)
    (case pl_xt1 => k_is)
    (case pl_xa2 => k_is)
    (case pl_xe2 => k_exc)
    (case pl_xk2 => k_is)
    (case pl_xs2 => k_is)
    (case pl_xt2 => k_is)
    (case pl_xa3 => k_is)
    (case pl_xe3 => k_exc)
    (case pl_xk3 => k_is)
    (case pl_xs3 => k_is)
    (case pl_xt3 => k_is)
