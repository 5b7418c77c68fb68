import PyProof.Rows.All
import Wide.All
import OpenK.AllK
import Wide.FinOn
import HandS.ForMost
import HandS.ForExc
import HandS.Wide
import HandS.WideBits
import HandS.WideMore
import HandS.IsInst
import HandS.CallSlots
import HandS.Rev
import HandS.TupAny
import HandS.Flow
import HandS.Defaults
import HandS.EndBits
import HandS.HotCalls
import HandS.ExcIs
import HandS.SuiteRaise
import PyProof.LongRange
import HandS.Deep
import HandS.Flt
import HandS.TryOnly
import HandS.Comp
import HandS.Conv
import HandS.SortInts
import HandS.TupLe
import PySem.Challenge.RW_leftnumbers_k72_pieces_of_the_line
set_option Elab.async false
set_option linter.all false
set_option maxRecDepth 100000
set_option autoImplicit false
namespace PL
open PySem PySem.Spec L2
open PyProof.Rows hiding St
/-- plain values -/
inductive PV where
  | non | bl (b : Bool) | int (i : Int) | str (s : Str)
  | tup (l : List PV) | lst (l : List PV) | frz (l : List PV) | dct
/-- what an evaluation comes to -/
inductive R (α : Type) where
  | ok (a : α) | exc (c : Str) | stuck
def R.bind {α β : Type} (x : R α) (k : α → R β) : R β := match x with
  | .ok a => k a | .exc c => .exc c | .stuck => .stuck
theorem R.bind_ok {α β : Type} (a : α) (k : α → R β) : (R.ok a).bind k = k a := rfl
/-- a slot: nothing yet; a value that may be shared; a list that this def made and nobody else holds -/
inductive Slot where
  | un | val (p : PV) | own (l : List PV) | ex (a : Addr)
abbrev Rho := List Slot
/-- a written tuple -/
def KT (K : PySem.W.Frag) (a : Addr) (xs : List V) : Prop :=
  ∃ (o : Obj) (its : Array Value) (n : Nat), K.lookup a = some o ∧ o.cls = .type "tuple" ∧ o.data = .seq its n ∧ its.size ≤ sizeLine ∧ Vals xs its.toList
mutual
inductive Rep (K : PySem.W.Frag) (H : Hp) (O : Addr → Prop) : V → PV → Prop
  | non : Rep K H O .non .non
  | bl (b : Bool) : Rep K H O (.bl b) (.bl b)
  | int (i : Int) : Rep K H O (.int i) (.int i)
  | str (x : Str) : Rep K H O (.str x) (.str x)
  | lst {a : Addr} {xs : List V} {ps : List PV} : H a = some (.lst xs) → ¬ O a → Reps K H O xs ps → Rep K H O (.ref a) (.lst ps)
  | tup {a : Addr} {xs : List V} {ps : List PV} : (H a = some (.tup xs) ∧ ¬ O a ∨ KT K a xs) → Reps K H O xs ps → Rep K H O (.ref a) (.tup ps)
  | frz {a : Addr} {ns : List Int} : ((∃ o, H a = some (.frz o (.lst (ns.map V.int)))) ∧ ¬ O a ∨ ((∀ H', SqL K H' a (ns.map V.int)))) → Rep K H O (.ref a) (.frz (ns.map PV.int))
  | dct {a : Addr} {kvs : List (L2.Key × V)} : H a = some (.dK kvs) → ¬ O a → Rep K H O (.ref a) .dct
inductive Reps (K : PySem.W.Frag) (H : Hp) (O : Addr → Prop) : List V → List PV → Prop
  | nil : Reps K H O [] []
  | cons {v : V} {vs : List V} {p : PV} {ps : List PV} : Rep K H O v p → Reps K H O vs ps → Reps K H O (v :: vs) (p :: ps)
end
section
variable {K : PySem.W.Frag} {H H' : Hp} {O O' : Addr → Prop}
mutual
theorem Rep.mono (hk : ∀ a o, H a = some o → ¬ O a → H' a = some o ∧ ¬ O' a) : ∀ {v : V} {p : PV}, Rep K H O v p → Rep K H' O' v p
  | _, _, .non => .non
  | _, _, .bl b => .bl b
  | _, _, .int i => .int i
  | _, _, .str x => .str x
  | _, _, .lst h n r => .lst (hk _ _ h n).1 (hk _ _ h n).2 (Reps.mono hk r)
  | _, _, .tup (.inl ⟨h, n⟩) r => .tup (.inl ⟨(hk _ _ h n).1, (hk _ _ h n).2⟩) (Reps.mono hk r)
  | _, _, .tup (.inr h) r => .tup (.inr h) (Reps.mono hk r)
  | _, _, .frz (.inl ⟨⟨o, h⟩, n⟩) => .frz (.inl ⟨⟨o, (hk _ _ h n).1⟩, (hk _ _ h n).2⟩)
  | _, _, .frz (.inr h) => .frz (.inr h)
  | _, _, .dct h n => .dct (hk _ _ h n).1 (hk _ _ h n).2
theorem Reps.mono (hk : ∀ a o, H a = some o → ¬ O a → H' a = some o ∧ ¬ O' a) : ∀ {v : List V} {p : List PV}, Reps K H O v p → Reps K H' O' v p
  | _, _, .nil => .nil
  | _, _, .cons h r => .cons (Rep.mono hk h) (Reps.mono hk r)
end
theorem Rep.same {v : V} {p : PV} (s : Same H H') (r : Rep K H O v p) : Rep K H' O v p := r.mono fun a o h n => ⟨s a o h, n⟩
theorem Reps.same {v : List V} {p : List PV} (s : Same H H') (r : Reps K H O v p) : Reps K H' O v p := r.mono fun a o h n => ⟨s a o h, n⟩
theorem Rep.less {v : V} {p : PV} (s : ∀ a, O' a → O a) (r : Rep K H O v p) : Rep K H O' v p := r.mono fun a o h n => ⟨h, fun z => n (s a z)⟩
theorem Reps.less {v : List V} {p : List PV} (s : ∀ a, O' a → O a) (r : Reps K H O v p) : Reps K H O' v p := r.mono fun a o h n => ⟨h, fun z => n (s a z)⟩
theorem Reps.length : ∀ {vs : List V} {ps : List PV}, Reps K H O vs ps → vs.length = ps.length
  | _, _, .nil => rfl
  | _, _, .cons _ r => by rw [List.length_cons, List.length_cons, Reps.length r]
theorem Reps.get : ∀ {vs : List V} {ps : List PV} {i : Nat} {p : PV}, Reps K H O vs ps → ps[i]? = some p → ∃ v, vs[i]? = some v ∧ Rep K H O v p
  | _, _, 0, _, .cons h _, e => ⟨_, rfl, by simp at e; exact e ▸ h⟩
  | _, _, i + 1, p, .cons _ r, e => by
    obtain ⟨v, h1, h2⟩ := Reps.get (i := i) (p := p) r (by simpa using e)
    exact ⟨v, by simpa using h1, h2⟩
theorem Reps.get' : ∀ {vs : List V} {ps : List PV} {i : Nat} {v : V}, Reps K H O vs ps → vs[i]? = some v → ∃ p, ps[i]? = some p ∧ Rep K H O v p
  | _, _, 0, _, .cons h _, e => ⟨_, rfl, by simp at e; exact e ▸ h⟩
  | _, _, i + 1, v, .cons _ r, e => by
    obtain ⟨p, h1, h2⟩ := Reps.get' (i := i) (v := v) r (by simpa using e)
    exact ⟨p, by simpa using h1, h2⟩
theorem Reps.append : ∀ {vs ws : List V} {ps qs : List PV}, Reps K H O vs ps → Reps K H O ws qs → Reps K H O (vs ++ ws) (ps ++ qs)
  | _, _, _, _, .nil, s => s
  | _, _, _, _, .cons h r, s => .cons h (Reps.append r s)
theorem Reps.take : ∀ {vs : List V} {ps : List PV} (n : Nat), Reps K H O vs ps → Reps K H O (vs.take n) (ps.take n)
  | _, _, 0, _ => .nil
  | _, _, _ + 1, .nil => .nil
  | _, _, n + 1, .cons h r => .cons h (Reps.take n r)
theorem Reps.drop : ∀ {vs : List V} {ps : List PV} (n : Nat), Reps K H O vs ps → Reps K H O (vs.drop n) (ps.drop n)
  | _, _, 0, r => r
  | _, _, _ + 1, .nil => .nil
  | _, _, n + 1, .cons _ r => Reps.drop n r
theorem Reps.set {v : V} {p : PV} (h : Rep K H O v p) : ∀ {vs : List V} {ps : List PV} (n : Nat), Reps K H O vs ps → Reps K H O (vs.set n v) (ps.set n p)
  | _, _, _, .nil => .nil
  | _, _, 0, .cons _ r => .cons h r
  | _, _, n + 1, .cons q r => .cons q (Reps.set h n r)
theorem Reps.reverse {vs : List V} {ps : List PV} (h : Reps K H O vs ps) : Reps K H O vs.reverse ps.reverse := by
  induction vs generalizing ps with
  | nil => cases h; exact .nil
  | cons v vs ih => cases h with
    | cons a r => rw [List.reverse_cons, List.reverse_cons]; exact (ih r).append (.cons a .nil)
theorem Reps.dropLast {vs : List V} {ps : List PV} (h : Reps K H O vs ps) : Reps K H O vs.dropLast ps.dropLast := by
  rw [List.dropLast_eq_take, List.dropLast_eq_take, h.length]; exact h.take _
theorem Reps.ints : ∀ {ns : List Int} {vs : List V}, Reps K H O vs (ns.map PV.int) → vs = ns.map V.int
  | [], _, .nil => rfl
  | n :: ns, _, .cons h r => by cases h; rw [Reps.ints r]; rfl
theorem Reps.ofInts : ∀ (ns : List Int), Reps K H O (ns.map V.int) (ns.map PV.int)
  | [] => .nil
  | n :: ns => .cons (.int n) (Reps.ofInts ns)
theorem Reps.bls : ∀ {ns : List Bool} {vs : List V}, Reps K H O vs (ns.map PV.bl) → vs = ns.map V.bl
  | [], _, .nil => rfl
  | n :: ns, _, .cons h r => by cases h; rw [Reps.bls r]; rfl
end
/-- the addresses that nobody else may hold: those from outside, those of the slots -/
def OO (O0 : Addr → Prop) (σ : St) (ρ : Rho) : Addr → Prop := fun a => O0 a ∨ ∃ (i : Nat) (ps : List PV), ρ[i]? = some (.own ps) ∧ σ[i]? = some (some (.ref a))
structure StR (K : PySem.W.Frag) (H0 : Hp) (O0 : Addr → Prop) (H : Hp) (σ : St) (ρ : Rho) : Prop where
  len : σ.length = ρ.length
  same : Same H0 H
  all0 : ∀ a, O0 a → H a ≠ none
  own : ∀ (i : Nat) (ps : List PV), ρ[i]? = some (.own ps) → ∃ (a : Addr) (vs : List V), σ[i]? = some (some (.ref a)) ∧ H a = some (.lst vs) ∧ H0 a = none ∧ ¬ O0 a ∧ Reps K H (OO O0 σ ρ) vs ps
  dis : ∀ (i j : Nat) (a : Addr) (ps qs : List PV), ρ[i]? = some (.own ps) → ρ[j]? = some (.own qs) → σ[i]? = some (some (.ref a)) → σ[j]? = some (some (.ref a)) → i = j
  val : ∀ (i : Nat) (p : PV), ρ[i]? = some (.val p) → ∃ (v : V), σ[i]? = some (some v) ∧ Rep K H (OO O0 σ ρ) v p
  exs : ∀ (i : Nat) (a : Addr), ρ[i]? = some (.ex a) → σ[i]? = some (some (.ref a))
theorem exs_set {σ : St} {ρ : Rho} (hl : σ.length = ρ.length) (h : ∀ (i : Nat) (a : Addr), ρ[i]? = some (.ex a) → σ[i]? = some (some (.ref a))) {i : Nat} {v : Option V} {s : Slot} (hs : ∀ a, s = .ex a → v = some (.ref a)) : ∀ (j : Nat) (a : Addr), (ρ.set i s)[j]? = some (.ex a) → (σ.set i v)[j]? = some (some (.ref a)) := fun j a e => by
  by_cases q : i = j
  · subst q
    by_cases hi : i < ρ.length
    · rw [List.getElem?_set_self hi] at e
      rw [List.getElem?_set_self (by rw [hl]; exact hi), hs a (Option.some.inj e)]
    · rw [List.getElem?_eq_none (by rw [List.length_set]; omega)] at e; cases e
  · rw [List.getElem?_set_ne q] at e ⊢
    exact h j a e
theorem exs_setR {σ : St} {ρ : Rho} (h : ∀ (i : Nat) (a : Addr), ρ[i]? = some (.ex a) → σ[i]? = some (some (.ref a))) {i : Nat} {s : Slot} (hs : ∀ a, s ≠ .ex a) : ∀ (j : Nat) (a : Addr), (ρ.set i s)[j]? = some (.ex a) → σ[j]? = some (some (.ref a)) := fun j a e => by
  by_cases q : i = j
  · subst q
    by_cases hi : i < ρ.length
    · rw [List.getElem?_set_self hi] at e
      exact absurd (Option.some.inj e) (hs a)
    · rw [List.getElem?_eq_none (by rw [List.length_set]; omega)] at e; cases e
  · rw [List.getElem?_set_ne q] at e
    exact h j a e
section
variable {K : PySem.W.Frag} {H0 H H' : Hp} {O0 : Addr → Prop} {σ : St} {ρ : Rho}
theorem StR.there (S : StR K H0 O0 H σ ρ) {a : Addr} (h : OO O0 σ ρ a) : H a ≠ none := by
  rcases h with h | ⟨i, ps, h1, h2⟩
  · exact S.all0 a h
  · obtain ⟨b, vs, e1, e2, _⟩ := S.own i ps h1
    rw [h2] at e1; cases e1
    rw [e2]; exact fun z => nomatch z
theorem StR.step (S : StR K H0 O0 H σ ρ) (s : Same H H') : StR K H0 O0 H' σ ρ :=
  ⟨S.len, S.same.trans s, fun a h z => S.all0 a h (s.free z), fun i ps h => let ⟨a, vs, e1, e2, e3, e5, e4⟩ := S.own i ps h; ⟨a, vs, e1, s _ _ e2, e3, e5, e4.same s⟩, S.dis, fun i p h => let ⟨v, e1, e2⟩ := S.val i p h; ⟨v, e1, e2.same s⟩, S.exs⟩
theorem OO.set_val {i : Nat} {v : Option V} {s : Slot} (hs : ∀ ps, s ≠ .own ps) {a : Addr} (h : OO O0 (σ.set i v) (ρ.set i s) a) : OO O0 σ ρ a := by
  rcases h with h | ⟨j, ps, h1, h2⟩
  · exact .inl h
  · by_cases e : i = j
    · subst e
      by_cases hl : i < ρ.length
      · rw [List.getElem?_set_self hl] at h1; exact absurd (Option.some.inj h1) (hs ps)
      · rw [List.getElem?_eq_none (by rw [List.length_set]; omega)] at h1; cases h1
    · rw [List.getElem?_set_ne e] at h1 h2
      exact .inr ⟨j, ps, h1, h2⟩
/-- a slot is set to a shared value (or emptied) -/
theorem StR.set (S : StR K H0 O0 H σ ρ) {i : Nat} {v : Option V} {s : Slot} (hs : ∀ ps, s ≠ .own ps) (hv : ∀ p, s = .val p → ∃ w, v = some w ∧ Rep K H (OO O0 σ ρ) w p) (hx : ∀ a, s = .ex a → v = some (.ref a) := by intro _ z; cases z) : StR K H0 O0 H (σ.set i v) (ρ.set i s) := by
  have less : ∀ a, OO O0 (σ.set i v) (ρ.set i s) a → OO O0 σ ρ a := fun a h => OO.set_val hs h
  refine ⟨by rw [List.length_set, List.length_set, S.len], S.same, S.all0, fun j ps h => ?_, fun j k a ps qs h1 h2 h3 h4 => ?_, fun j p h => ?_, exs_set S.len S.exs hx⟩
  · by_cases e : i = j
    · subst e
      by_cases hl : i < ρ.length
      · rw [List.getElem?_set_self hl] at h; exact absurd (Option.some.inj h) (hs ps)
      · rw [List.getElem?_eq_none (by rw [List.length_set]; omega)] at h; cases h
    · rw [List.getElem?_set_ne e] at h
      obtain ⟨a, vs, e1, e2, e3, e5, e4⟩ := S.own j ps h
      exact ⟨a, vs, by rw [List.getElem?_set_ne e]; exact e1, e2, e3, e5, e4.less less⟩
  · have go : ∀ {j : Nat} {ps : List PV}, (ρ.set i s)[j]? = some (.own ps) → i ≠ j := fun {j ps} h e => by
      subst e
      by_cases hl : i < ρ.length
      · rw [List.getElem?_set_self hl] at h; exact absurd (Option.some.inj h) (hs ps)
      · rw [List.getElem?_eq_none (by rw [List.length_set]; omega)] at h; cases h
    have e1 := go h1
    have e2 := go h2
    rw [List.getElem?_set_ne e1] at h1 h3
    rw [List.getElem?_set_ne e2] at h2 h4
    exact S.dis j k a ps qs h1 h2 h3 h4
  · by_cases e : i = j
    · subst e
      by_cases hl : i < ρ.length
      · rw [List.getElem?_set_self hl] at h
        obtain ⟨w, e1, e2⟩ := hv p (Option.some.inj h)
        exact ⟨w, by rw [List.getElem?_set_self (by rw [S.len]; exact hl), e1], e2.less less⟩
      · rw [List.getElem?_eq_none (by rw [List.length_set]; omega)] at h; cases h
    · rw [List.getElem?_set_ne e] at h
      obtain ⟨w, e1, e2⟩ := S.val j p h
      exact ⟨w, by rw [List.getElem?_set_ne e]; exact e1, e2.less less⟩
/-- a slot is set to a list that is new -/
theorem StR.setOwn (S : StR K H0 O0 H σ ρ) (s : Same H H') {i : Nat} {a : Addr} {vs : List V} {ps : List PV} (hn : H a = none) (ha : H' a = some (.lst vs)) (hr : Reps K H' (fun b => OO O0 σ ρ b ∨ b = a) vs ps) :
    StR K H0 O0 H' (σ.set i (some (.ref a))) (ρ.set i (.own ps)) := by
  have less : ∀ b, OO O0 (σ.set i (some (.ref a))) (ρ.set i (.own ps)) b → OO O0 σ ρ b ∨ b = a := fun b h => by
    rcases h with h | ⟨j, qs, h1, h2⟩
    · exact .inl (.inl h)
    · by_cases e : i = j
      · subst e
        by_cases hl : i < σ.length
        · rw [List.getElem?_set_self hl] at h2; cases h2; exact .inr rfl
        · rw [List.getElem?_eq_none (by rw [List.length_set]; omega)] at h2; cases h2
      · rw [List.getElem?_set_ne e] at h1 h2
        exact .inl (.inr ⟨j, qs, h1, h2⟩)
  have h0 : H0 a = none := S.same.free hn
  have nota : ∀ {b : Addr} {o : HO}, H b = some o → b ≠ a := fun hb z => by rw [z, hn] at hb; cases hb
  have keep : ∀ {v : V} {p : PV}, Rep K H (OO O0 σ ρ) v p → Rep K H' (OO O0 (σ.set i (some (.ref a))) (ρ.set i (.own ps))) v p := fun r => r.mono fun b o hb nb => ⟨s b o hb, fun z => (less b z).elim nb (nota hb)⟩
  have keeps : ∀ {v : List V} {p : List PV}, Reps K H (OO O0 σ ρ) v p → Reps K H' (OO O0 (σ.set i (some (.ref a))) (ρ.set i (.own ps))) v p := fun r => r.mono fun b o hb nb => ⟨s b o hb, fun z => (less b z).elim nb (nota hb)⟩
  refine ⟨by rw [List.length_set, List.length_set, S.len], S.same.trans s, fun a h z => S.all0 a h (s.free z), fun j qs h => ?_, fun j k b qs rs h1 h2 h3 h4 => ?_, fun j p h => ?_, exs_set S.len S.exs fun _ z => nomatch z⟩
  · by_cases e : i = j
    · subst e
      by_cases hl : i < ρ.length
      · rw [List.getElem?_set_self hl] at h; cases h
        exact ⟨a, vs, by rw [List.getElem?_set_self (by rw [S.len]; exact hl)], ha, h0, fun z => S.all0 a z hn, hr.less less⟩
      · rw [List.getElem?_eq_none (by rw [List.length_set]; omega)] at h; cases h
    · rw [List.getElem?_set_ne e] at h
      obtain ⟨b, ws, e1, e2, e3, e5, e4⟩ := S.own j qs h
      exact ⟨b, ws, by rw [List.getElem?_set_ne e]; exact e1, s _ _ e2, e3, e5, keeps e4⟩
  · have other : ∀ {j : Nat} {qs : List PV} {b : Addr}, i ≠ j → (ρ.set i (.own ps))[j]? = some (.own qs) → (σ.set i (some (.ref a)))[j]? = some (some (.ref b)) → b ≠ a := fun {j qs b} e h1 h3 z => by
      rw [List.getElem?_set_ne e] at h1 h3
      obtain ⟨c, ws, e1, e2, _⟩ := S.own j qs h1
      rw [h3] at e1; cases e1
      exact nota e2 z
    have self : ∀ {j : Nat} {b : Addr}, i = j → (σ.set i (some (.ref a)))[j]? = some (some (.ref b)) → b = a := fun {j b} e h3 => by
      subst e
      by_cases hl : i < σ.length
      · rw [List.getElem?_set_self hl] at h3; cases h3; rfl
      · rw [List.getElem?_eq_none (by rw [List.length_set]; omega)] at h3; cases h3
    by_cases e1 : i = j
    · by_cases e2 : i = k
      · exact e1.symm.trans e2
      · exact absurd (self e1 h3) (other e2 h2 h4)
    · by_cases e2 : i = k
      · exact absurd (self e2 h4) (other e1 h1 h3)
      · rw [List.getElem?_set_ne e1] at h1 h3
        rw [List.getElem?_set_ne e2] at h2 h4
        exact S.dis j k b qs rs h1 h2 h3 h4
  · by_cases e : i = j
    · subst e
      by_cases hl : i < ρ.length
      · rw [List.getElem?_set_self hl] at h; cases h
      · rw [List.getElem?_eq_none (by rw [List.length_set]; omega)] at h; cases h
    · rw [List.getElem?_set_ne e] at h
      obtain ⟨w, e1, e2⟩ := S.val j p h
      exact ⟨w, by rw [List.getElem?_set_ne e]; exact e1, keep e2⟩
/-- an owned list is changed -/
theorem StR.write (S : StR K H0 O0 H σ ρ) {i : Nat} {a : Addr} {ps qs : List PV} {ws : List V} (h1 : ρ[i]? = some (.own ps)) (h2 : σ[i]? = some (some (.ref a))) (hr : Reps K H (OO O0 σ ρ) ws qs) :
    StR K H0 O0 (upd H a (.lst ws)) σ (ρ.set i (.own qs)) := by
  have hi : i < ρ.length := (List.getElem?_eq_some_iff.mp h1).1
  have oeq : ∀ b, OO O0 σ (ρ.set i (.own qs)) b ↔ OO O0 σ ρ b := fun b => by
    constructor
    · rintro (h | ⟨j, rs, e1, e2⟩)
      · exact .inl h
      · by_cases e : i = j
        · subst e; exact .inr ⟨i, ps, h1, e2⟩
        · rw [List.getElem?_set_ne e] at e1; exact .inr ⟨j, rs, e1, e2⟩
    · rintro (h | ⟨j, rs, e1, e2⟩)
      · exact .inl h
      · by_cases e : i = j
        · subst e; exact .inr ⟨i, qs, List.getElem?_set_self hi, e2⟩
        · exact .inr ⟨j, rs, by rw [List.getElem?_set_ne e]; exact e1, e2⟩
  have hO : OO O0 σ ρ a := .inr ⟨i, ps, h1, h2⟩
  have hk : ∀ b o, H b = some o → ¬ OO O0 σ ρ b → upd H a (.lst ws) b = some o ∧ ¬ OO O0 σ (ρ.set i (.own qs)) b := fun b o hb nb =>
    ⟨by rw [upd_ne (fun z => nb (by rw [z]; exact hO))]; exact hb, fun z => nb ((oeq b).mp z)⟩
  obtain ⟨a', vs, e1, e2, e3, e5, _⟩ := S.own i ps h1
  rw [h2] at e1; cases e1
  refine ⟨by rw [List.length_set, S.len], fun b o hb => ?_, fun b hb => ?_, fun j rs h => ?_, fun j k b rs ts g1 g2 g3 g4 => ?_, fun j p h => ?_, exs_setR S.exs fun _ z => nomatch z⟩
  · rw [upd_ne (fun z => by rw [z, e3] at hb; cases hb)]; exact S.same b o hb
  · by_cases e : b = a
    · rw [e, upd_same]; exact fun z => nomatch z
    · rw [upd_ne e]; exact S.all0 b hb
  · by_cases e : i = j
    · subst e
      rw [List.getElem?_set_self hi] at h; cases h
      exact ⟨a, ws, h2, upd_same, e3, e5, hr.mono hk⟩
    · rw [List.getElem?_set_ne e] at h
      obtain ⟨b, us, f1, f2, f3, f5, f4⟩ := S.own j rs h
      exact ⟨b, us, f1, by rw [upd_ne (fun z => e (S.dis i j a ps rs h1 h h2 (by rw [← z]; exact f1)))]; exact f2, f3, f5, f4.mono hk⟩
  · have go : ∀ {j : Nat} {rs : List PV}, (ρ.set i (.own qs))[j]? = some (.own rs) → ∃ rs', ρ[j]? = some (.own rs') := fun {j rs} h => by
      by_cases e : i = j
      · subst e; exact ⟨_, h1⟩
      · rw [List.getElem?_set_ne e] at h; exact ⟨_, h⟩
    obtain ⟨_, f1⟩ := go g1
    obtain ⟨_, f2⟩ := go g2
    exact S.dis j k b _ _ f1 f2 g3 g4
  · by_cases e : i = j
    · subst e
      rw [List.getElem?_set_self hi] at h; cases h
    · rw [List.getElem?_set_ne e] at h
      obtain ⟨w, f1, f2⟩ := S.val j p h
      exact ⟨w, f1, f2.mono hk⟩
/-- an owned list is let go: it is shared from now on -/
theorem StR.freeze (S : StR K H0 O0 H σ ρ) {i : Nat} {ps : List PV} (h1 : ρ[i]? = some (.own ps)) : StR K H0 O0 H σ (ρ.set i (.val (.lst ps))) := by
  have hi : i < ρ.length := (List.getElem?_eq_some_iff.mp h1).1
  obtain ⟨a, vs, e1, e2, e3, e5, e4⟩ := S.own i ps h1
  have hs : σ.set i (some (.ref a)) = σ := by
    refine List.ext_getElem? fun j => ?_
    by_cases e : i = j
    · subst e; rw [List.getElem?_set_self (by rw [S.len]; exact hi), e1]
    · rw [List.getElem?_set_ne e]
  have less : ∀ b, OO O0 σ (ρ.set i (.val (.lst ps))) b → OO O0 σ ρ b := fun b h => by
    rw [← hs] at h
    exact OO.set_val (fun _ z => Slot.noConfusion z) h
  have na : ¬ OO O0 σ (ρ.set i (.val (.lst ps))) a := by
    rintro (h | ⟨j, rs, f1, f2⟩)
    · exact e5 h
    · by_cases e : i = j
      · subst e
        rw [List.getElem?_set_self hi] at f1; cases f1
      · rw [List.getElem?_set_ne e] at f1
        exact e (S.dis i j a ps rs h1 f1 e1 f2)
  refine ⟨by rw [List.length_set, S.len], S.same, S.all0, fun j rs h => ?_, fun j k b rs ts g1 g2 g3 g4 => ?_, fun j p h => ?_, exs_setR S.exs fun _ z => nomatch z⟩
  · by_cases e : i = j
    · subst e
      rw [List.getElem?_set_self hi] at h; cases h
    · rw [List.getElem?_set_ne e] at h
      obtain ⟨b, us, f1, f2, f3, f5, f4⟩ := S.own j rs h
      exact ⟨b, us, f1, f2, f3, f5, f4.less less⟩
  · have go : ∀ {j : Nat} {rs : List PV}, (ρ.set i (.val (.lst ps)))[j]? = some (.own rs) → ρ[j]? = some (.own rs) := fun {j rs} h => by
      by_cases e : i = j
      · subst e; rw [List.getElem?_set_self hi] at h; cases h
      · rw [List.getElem?_set_ne e] at h; exact h
    exact S.dis j k b _ _ (go g1) (go g2) g3 g4
  · by_cases e : i = j
    · subst e
      rw [List.getElem?_set_self hi] at h; cases h
      exact ⟨.ref a, e1, .lst e2 na (e4.less less)⟩
    · rw [List.getElem?_set_ne e] at h
      obtain ⟨w, f1, f2⟩ := S.val j p h
      exact ⟨w, f1, f2.less less⟩
end
end PL
set_option Elab.async false
set_option linter.all false
set_option maxRecDepth 100000
set_option autoImplicit false
namespace PL
open PySem PySem.Spec L2
open PyProof.Rows hiding St
/-- how a result stands: s: apart from the owned lists; t: it may be an owned list itself; f: a list that is new; w: apart from the outer addresses alone -/
inductive Md where
  | s | t | f | w
def RepM (K : PySem.W.Frag) (O0 : Addr → Prop) (σ : St) (ρ : Rho) : Md → Hp → Hp → V → PV → Prop
  | .s, _, H', v, p => Rep K H' (OO O0 σ ρ) v p
  | .t, _, H', v, p => Rep K H' (OO O0 σ ρ) v p ∨ ∃ a vs ps, v = .ref a ∧ p = .lst ps ∧ H' a = some (.lst vs) ∧ Reps K H' (OO O0 σ ρ) vs ps
  | .f, H, H', v, p => ∃ a vs ps, v = .ref a ∧ p = .lst ps ∧ H a = none ∧ H' a = some (.lst vs) ∧ Reps K H' (fun b => OO O0 σ ρ b ∨ b = a) vs ps
  | .w, _, H', v, p => Rep K H' O0 v p
section
variable {K : PySem.W.Frag} {H0 H H1 H2 : Hp} {O0 : Addr → Prop} {σ : St} {ρ : Rho} {v : V} {p : PV} {m : Md}
theorem RepM.step (r : RepM K O0 σ ρ m H H1 v p) (s : Same H1 H2) : RepM K O0 σ ρ m H H2 v p := by
  cases m with
  | s => exact Rep.same s r
  | t =>
    rcases r with r | ⟨a, vs, ps, e1, e2, e3, e4⟩
    · exact .inl (r.same s)
    · exact .inr ⟨a, vs, ps, e1, e2, s _ _ e3, e4.same s⟩
  | f => obtain ⟨a, vs, ps, e1, e2, e3, e4, e5⟩ := r; exact ⟨a, vs, ps, e1, e2, e3, s _ _ e4, e5.same s⟩
  | w => exact Rep.same s r
theorem RepM.back (s : Same H H1) (r : RepM K O0 σ ρ m H1 H2 v p) : RepM K O0 σ ρ m H H2 v p := by
  cases m with
  | s => exact r
  | t => exact r
  | f => obtain ⟨a, vs, ps, e1, e2, e3, e4, e5⟩ := r; exact ⟨a, vs, ps, e1, e2, s.free e3, e4, e5⟩
  | w => exact r
theorem RepM.f_s (S : StR K H0 O0 H σ ρ) (r : RepM K O0 σ ρ .f H H1 v p) : RepM K O0 σ ρ .s H H1 v p := by
  obtain ⟨a, vs, ps, rfl, rfl, e3, e4, e5⟩ := r
  exact .lst e4 (fun z => S.there z e3) (e5.less fun _ z => .inl z)
theorem RepM.s_w (r : RepM K O0 σ ρ .s H H1 v p) : RepM K O0 σ ρ .w H H1 v p := Rep.less (fun _ z => .inl z) r
theorem RepM.s_t (r : RepM K O0 σ ρ .s H H1 v p) : RepM K O0 σ ρ .t H H1 v p := .inl r
end
/-- what an expression's end must bring -/
def Got (K : PySem.W.Frag) (mg : Str → Option Value) (W : WX) (O0 : Addr → Prop) (σ : St) (ρ : Rho) (m : Md) (H : Hp) (Q : VK) : R PV → Prop
  | .ok p => ∀ v H', Same H H' → RepM K O0 σ ρ m H H' v p → Q v H'
  | .exc c => ∀ C H', Same H H' → mg c = some (.ref C) → W (.ref C) none σ H'
  | .stuck => False
def GotT (mg : Str → Option Value) (W : WX) (σ : St) (H : Hp) (Q : Bool → Hp → Prop) : R Bool → Prop
  | .ok b => ∀ H', Same H H' → Q b H'
  | .exc c => ∀ C H', Same H H' → mg c = some (.ref C) → W (.ref C) none σ H'
  | .stuck => False
def GotA (K : PySem.W.Frag) (mg : Str → Option Value) (W : WX) (O0 : Addr → Prop) (σ : St) (ρ : Rho) (m : Md) (H : Hp) (Q : List V → Hp → Prop) : R (List PV) → Prop
  | .ok ps => ∀ vs H', Same H H' → Paired (RepM K O0 σ ρ m H H') vs ps → Q vs H'
  | .exc c => ∀ C H', Same H H' → mg c = some (.ref C) → W (.ref C) none σ H'
  | .stuck => False
def tE (K : PySem.W.Frag) (mg : Str → Option Value) (W : WX) (m : Md) (f : Rho → R PV) : TE := fun σ H Q =>
  ∃ H0 O0 ρ, StR K H0 O0 H σ ρ ∧ Got K mg W O0 σ ρ m H Q (f ρ)
def tT (K : PySem.W.Frag) (mg : Str → Option Value) (W : WX) (f : Rho → R Bool) : TT := fun σ H Q =>
  ∃ H0 O0 ρ, StR K H0 O0 H σ ρ ∧ GotT mg W σ H Q (f ρ)
def tA (K : PySem.W.Frag) (mg : Str → Option Value) (W : WX) (m : Md) (f : Rho → R (List PV)) : TA := fun σ H Q =>
  ∃ H0 O0 ρ, StR K H0 O0 H σ ρ ∧ GotA K mg W O0 σ ρ m H Q (f ρ)
abbrev EJ (X : Cx) (W : WX) (m : Md) (e : Expr) (f : Rho → R PV) : Prop := PE X e (tE X.K X.mg W m f)
abbrev TJ (X : Cx) (W : WX) (e : Expr) (f : Rho → R Bool) : Prop := PT X e (tT X.K X.mg W f)
abbrev AJ (X : Cx) (W : WX) (m : Md) (es : List Expr) (f : Rho → R (List PV)) : Prop := PA X es (tA X.K X.mg W m f)
section
variable {X : Cx} {e a b : Expr} {pos : Pos}
theorem pe_imp {t t' : TE} (h : PE X e t) (q : ∀ σ H Q, t' σ H Q → t σ H Q) : PE X e t' := ⟨fun pins s σ H Q I hw => h.run pins s σ H Q I (q σ H Q hw)⟩
theorem pt_imp {t t' : TT} (h : PT X e t) (q : ∀ σ H Q, t' σ H Q → t σ H Q) : PT X e t' := ⟨fun pins s σ H Q I hw => h.run pins s σ H Q I (q σ H Q hw)⟩
theorem pw_imp {t t' : TT} (h : PW X e t) (q : ∀ σ H Q, t' σ H Q → t σ H Q) : PW X e t' := ⟨fun wh pins s σ H Q I hw => h.run wh pins s σ H Q I (q σ H Q hw)⟩
theorem pa_imp {es : List Expr} {t t' : TA} (h : PA X es t) (q : ∀ σ H Q, t' σ H Q → t σ H Q) : PA X es t' := ⟨fun pos pins s σ H Q I hw => h.run pos pins s σ H Q I (q σ H Q hw)⟩
end
section
variable {K : PySem.W.Frag} {mg : Str → Option Value} {W : WX} {H0 H H1 H2 : Hp} {O0 : Addr → Prop} {σ : St} {ρ : Rho} {m m1 m2 : Md}
/-- from a later heap -/
theorem Got.later {x : R PV} {Q : VK} (s : Same H H1) (h : Got K mg W O0 σ ρ m H Q x) : Got K mg W O0 σ ρ m H1 Q x := by
  cases x with
  | ok p => exact fun v H' s' r => h v H' (s.trans s') (r.back s)
  | exc c => exact fun C H' s' e => h C H' (s.trans s') e
  | stuck => exact h
theorem GotT.later {x : R Bool} {Q : Bool → Hp → Prop} (s : Same H H1) (h : GotT mg W σ H Q x) : GotT mg W σ H1 Q x := by
  cases x with
  | ok p => exact fun H' s' => h H' (s.trans s')
  | exc c => exact fun C H' s' e => h C H' (s.trans s') e
  | stuck => exact h
end
def eC (p : PV) : Rho → R PV := fun _ => .ok p
def eV (i : Nat) : Rho → R PV := fun ρ => match ρ[i]? with
  | some (.val p) => .ok p
  | _ => .stuck
def eVo (i : Nat) : Rho → R PV := fun ρ => match ρ[i]? with
  | some (.val p) => .ok p
  | some (.own ps) => .ok (.lst ps)
  | _ => .stuck
section
variable {X : Cx} {W : WX} {e a b c : Expr} {pos : Pos} {m m1 m2 m3 : Md} {f g h : Rho → R PV}
theorem e_const {v : V} {p : PV} (hp : PE X e (tC v)) (hr : ∀ K H O, Rep K H O v p) : EJ X W .s e (eC p) := by
  refine pe_imp hp fun σ H Q ⟨H0, O0, ρ, S, G⟩ => ?_
  exact G v H (Same.refl H) (hr _ _ _)
theorem e_int {i : Int} {j : Nat} : EJ X W .s (.Constant (.int i) j pos) (eC (.int i)) := e_const pe_int fun _ _ _ => .int i
theorem e_bl {k : Bool} {j : Nat} : EJ X W .s (.Constant (.bool k) j pos) (eC (.bl k)) := e_const pe_bl fun _ _ _ => .bl k
theorem e_s_t (h : EJ X W .s e f) : EJ X W .t e f := by
  refine pe_imp h fun σ H Q ⟨H0, O0, ρ, S, G⟩ => ⟨H0, O0, ρ, S, ?_⟩
  revert G
  cases f ρ with
  | ok p => exact fun G v H' s r => G v H' s (RepM.s_t (H := H) r)
  | exc c => exact id
  | stuck => exact id
theorem e_f_s (h : EJ X W .f e f) : EJ X W .s e f := by
  refine pe_imp h fun σ H Q ⟨H0, O0, ρ, S, G⟩ => ⟨H0, O0, ρ, S, ?_⟩
  revert G
  cases f ρ with
  | ok p => exact fun G v H' s r => G v H' s (RepM.f_s S r)
  | exc c => exact id
  | stuck => exact id
theorem e_f_t (h : EJ X W .f e f) : EJ X W .t e f := e_s_t (e_f_s h)
theorem eVar_get {K : PySem.W.Frag} {H0 H : Hp} {O0 : Addr → Prop} {σ : St} {ρ : Rho} (S : StR K H0 O0 H σ ρ) {i : Nat} {p : PV} (h : eV i ρ = .ok p) : ∃ v, σ[i]? = some (some v) ∧ Rep K H (OO O0 σ ρ) v p := by
  unfold eV at h
  split at h
  · rename_i q hq
    cases h
    exact S.val i _ hq
  · cases h
theorem e_var {i : Nat} (hp : PE X e (tVar i)) : EJ X W .s e (eV i) := by
  refine pe_imp hp fun σ H Q ⟨H0, O0, ρ, S, G⟩ => ?_
  revert G
  cases hv : eV i ρ with
  | ok p =>
    intro G
    obtain ⟨v, e1, e2⟩ := eVar_get S hv
    exact ⟨v, e1, G v H (Same.refl H) e2⟩
  | exc c => unfold eV at hv; split at hv <;> cases hv
  | stuck => exact False.elim
theorem eVo_get {K : PySem.W.Frag} {H0 H : Hp} {O0 : Addr → Prop} {σ : St} {ρ : Rho} (S : StR K H0 O0 H σ ρ) {i : Nat} {p : PV} (h : eVo i ρ = .ok p) : ∃ v, σ[i]? = some (some v) ∧ RepM K O0 σ ρ .t H H v p ∧ RepM K O0 σ ρ .w H H v p := by
  unfold eVo at h
  split at h
  · rename_i q hq
    cases h
    obtain ⟨v, e1, e2⟩ := S.val i _ hq
    exact ⟨v, e1, .inl e2, RepM.s_w (H := H) e2⟩
  · rename_i ps hq
    cases h
    obtain ⟨a, vs, e1, e2, e3, e5, e4⟩ := S.own i _ hq
    exact ⟨.ref a, e1, .inr ⟨a, vs, _, rfl, rfl, e2, e4⟩, .lst e2 e5 (e4.less fun _ z => .inl z)⟩
  · cases h
theorem eVo_noexc {i : Nat} {ρ : Rho} {c : Str} (h : eVo i ρ = .exc c) : False := by
  unfold eVo at h
  split at h <;> cases h
theorem e_varT {i : Nat} (hp : PE X e (tVar i)) : EJ X W .t e (eVo i) := by
  refine pe_imp hp fun σ H Q ⟨H0, O0, ρ, S, G⟩ => ?_
  revert G
  cases hv : eVo i ρ with
  | ok p =>
    intro G
    obtain ⟨v, e1, e2, _⟩ := eVo_get S hv
    exact ⟨v, e1, G v H (Same.refl H) e2⟩
  | exc c => exact (eVo_noexc hv).elim
  | stuck => exact False.elim
/-- what an operation's end must bring -/
def GotV (K : PySem.W.Frag) (O0 : Addr → Prop) (σ : St) (ρ : Rho) (m : Md) (H H2 : Hp) (Q : VK) : R PV → Prop
  | .ok p => ∀ v H', Same H2 H' → RepM K O0 σ ρ m H H' v p → Q v H'
  | _ => False
def OpS (K : PySem.W.Frag) (r : R2) (m1 m2 m : Md) (g : PV → PV → R PV) : Prop :=
  ∀ {H0 O0 σ ρ H H2 x y p q} {Q : VK}, StR K H0 O0 H σ ρ → Same H H2 → RepM K O0 σ ρ m1 H H2 x p → RepM K O0 σ ρ m2 H H2 y q → GotV K O0 σ ρ m H H2 Q (g p q) → r x y H2 Q
def UnS (K : PySem.W.Frag) (r : V → Hp → VK → Prop) (m1 m : Md) (g : PV → R PV) : Prop :=
  ∀ {H0 O0 σ ρ H H2 x p} {Q : VK}, StR K H0 O0 H σ ρ → Same H H2 → RepM K O0 σ ρ m1 H H2 x p → GotV K O0 σ ρ m H H2 Q (g p) → r x H2 Q
def CallS (K : PySem.W.Frag) (r : List V → Hp → VK → Prop) (m1 m : Md) (g : List PV → R PV) : Prop :=
  ∀ {H0 O0 σ ρ H H2 xs ps} {Q : VK}, StR K H0 O0 H σ ρ → Same H H2 → Paired (RepM K O0 σ ρ m1 H H2) xs ps → GotV K O0 σ ρ m H H2 Q (g ps) → r xs H2 Q
def e2 (g : PV → PV → R PV) (f1 f2 : Rho → R PV) : Rho → R PV := fun ρ => (f1 ρ).bind fun x => (f2 ρ).bind fun y => g x y
def e1 (g : PV → R PV) (f1 : Rho → R PV) : Rho → R PV := fun ρ => (f1 ρ).bind g
theorem Got.v {K : PySem.W.Frag} {mg : Str → Option Value} {O0 : Addr → Prop} {σ : St} {ρ : Rho} {H H2 : Hp} {Q : VK} {x : R PV} (hx : ∀ c, x ≠ .exc c) (s : Same H H2) (G : Got K mg W O0 σ ρ m H Q x) : GotV K O0 σ ρ m H H2 Q x := by
  cases x with
  | ok p => exact fun v H' s' r => G v H' (s.trans s') r
  | exc c => exact absurd rfl (hx c)
  | stuck => exact G
theorem t_op {r : R2} {g : PV → PV → R PV} (hg : ∀ p q c, g p q ≠ .exc c) (ho : OpS X.K r m1 m2 m g) : ∀ σ H Q, tE X.K X.mg W m (e2 g f h) σ H Q → tOp r (tE X.K X.mg W m1 f) (tE X.K X.mg W m2 h) σ H Q := by
  intro σ H Q ⟨H0, O0, ρ, S, G⟩
  refine ⟨H0, O0, ρ, S, ?_⟩
  revert G
  unfold e2
  cases f ρ with
  | stuck => exact False.elim
  | exc c => exact id
  | ok p =>
    intro G x H1 s1 r1
    refine ⟨H0, O0, ρ, S.step s1, ?_⟩
    revert G
    rw [R.bind_ok]
    cases h ρ with
    | stuck => exact False.elim
    | exc c => exact fun G C H' s' => G C H' (s1.trans s')
    | ok q =>
      intro G y H2 s2 r2
      exact ho S (s1.trans s2) (r1.step s2) (r2.back s1) (Got.v (hg p q) (s1.trans s2) G)
theorem e_op {op : Operator} {r : R2} {g : PV → PV → R PV} (hr : OpR X (binaryOp op) r) (hg : ∀ p q c, g p q ≠ .exc c) (ho : OpS X.K r m1 m2 m g) (ha : EJ X W m1 a f) (hb : EJ X W m2 b h) : EJ X W m (.BinOp a op b pos) (e2 g f h) :=
  pe_imp (pe_op hr ha hb) (t_op hg ho)
theorem e_cmp {op : CmpOp} {r : R2} {g : PV → PV → R PV} (hr : OpR X (compareOp op) r) (hg : ∀ p q c, g p q ≠ .exc c) (ho : OpS X.K r m1 m2 m g) (ha : EJ X W m1 a f) (hb : EJ X W m2 b h) (hm : behindInMarks op b = false) : EJ X W m (.Compare a [op] [b] pos) (e2 g f h) :=
  pe_imp (pe_cmpR hr ha hb hm) (t_op hg ho)
theorem e_ix {r : R2} {g : PV → PV → R PV} (hr : IxR X r) (hg : ∀ p q c, g p q ≠ .exc c) (ho : OpS X.K r m1 m2 m g) (ha : EJ X W m1 a f) (hb : EJ X W m2 b h) (hs : PlainIx b) : EJ X W m (.Subscript a b pos) (e2 g f h) :=
  pe_imp (pe_ix hr ha hb hs) (t_op hg ho)
theorem e_un {op : UnaryOp} {r : V → Hp → VK → Prop} {g : PV → R PV} (hr : UnR X (unaryOp op) r) (hg : ∀ p c, g p ≠ .exc c) (ho : UnS X.K r m1 m g) (ha : EJ X W m1 a f) : EJ X W m (.UnaryOp op a pos) (e1 g f) := by
  refine pe_imp (pe_un hr ha) fun σ H Q ⟨H0, O0, ρ, S, G⟩ => ⟨H0, O0, ρ, S, ?_⟩
  revert G
  unfold e1
  cases f ρ with
  | stuck => exact False.elim
  | exc c => exact id
  | ok p => exact fun G x H1 s1 r1 => ho S s1 r1 (Got.v (hg p) s1 G)
def asB : PV → R Bool
  | .bl b => .ok b
  | _ => .stuck
def tB1 (f : Rho → R PV) : Rho → R Bool := fun ρ => (f ρ).bind asB
theorem GotB {K : PySem.W.Frag} {mg : Str → Option Value} {O0 : Addr → Prop} {σ : St} {ρ : Rho} {H : Hp} {Q : Bool → Hp → Prop} {x : R PV} (G : GotT mg W σ H Q (x.bind asB)) : Got K mg W O0 σ ρ .s H (fun v H' => ∃ k, v = .bl k ∧ Q k H') x := by
  revert G
  cases x with
  | stuck => exact False.elim
  | exc c => exact id
  | ok p =>
    cases p with
    | bl b => exact fun G v H' s r => by cases r; exact ⟨b, rfl, G H' s⟩
    | _ => exact False.elim
theorem t_cmp {op : CmpOp} {r : R2} {g : PV → PV → R PV} (hr : OpR X (compareOp op) r) (hg : ∀ p q c, g p q ≠ .exc c) (ho : OpS X.K r m1 m2 .s g) (ha : EJ X W m1 a f) (hb : EJ X W m2 b h) (hm : behindInMarks op b = false) : TJ X W (.Compare a [op] [b] pos) (tB1 (e2 g f h)) := by
  refine pt_imp (pt_cmpR hr ha hb hm) fun σ H Q ⟨H0, O0, ρ, S, G⟩ => ?_
  exact t_op hg ho σ H _ ⟨H0, O0, ρ, S, GotB G⟩
/-- an expression of any other kind, worth a truth value -/
theorem t_val (ha : EJ X W .s e f) (he : ∀ whole, isTrue e X.env whole = (do let v ← whole; standAt e.pos; holding [v] (truthy v)) := by intro _; rfl) : TJ X W e (tB1 f) := by
  refine pt_imp (pt_val ha he) fun σ H Q ⟨H0, O0, ρ, S, G⟩ => ⟨H0, O0, ρ, S, GotB G⟩
variable {fT gT hT : Rho → R Bool}
def tNt (f : Rho → R Bool) : Rho → R Bool := fun ρ => (f ρ).bind fun b => .ok (!b)
def tAn (f g : Rho → R Bool) : Rho → R Bool := fun ρ => (f ρ).bind fun b => if b = true then g ρ else .ok false
def tOr' (f g : Rho → R Bool) : Rho → R Bool := fun ρ => (f ρ).bind fun b => if b = true then .ok true else g ρ
theorem t_not (ha : TJ X W a fT) : TJ X W (.UnaryOp .Not a pos) (tNt fT) := by
  refine pt_imp (pt_not ha) fun σ H Q ⟨H0, O0, ρ, S, G⟩ => ⟨H0, O0, ρ, S, ?_⟩
  revert G
  unfold tNt
  cases fT ρ with
  | stuck => exact False.elim
  | exc c => exact id
  | ok b => exact fun G H' s => G H' s
abbrev WJ (X : Cx) (W : WX) (e : Expr) (f : Rho → R Bool) : Prop := PW X e (tT X.K X.mg W f)
theorem t_w (h : WJ X W e fT) : TJ X W e fT := PW.pt h
variable {rest : List Expr}
theorem w_and1 (ha : TJ X W a fT) : WJ X W (.BoolOp .And [a] pos) fT := pw_and1 ha
theorem w_or1 (ha : TJ X W a fT) : WJ X W (.BoolOp .Or [a] pos) fT := pw_or1 ha
theorem w_and (ha : TJ X W a fT) (hb : WJ X W (.BoolOp .And (b :: rest) pos) gT) : WJ X W (.BoolOp .And (a :: b :: rest) pos) (tAn fT gT) := by
  refine pw_imp (pw_and ha hb) fun σ H Q ⟨H0, O0, ρ, S, G⟩ => ⟨H0, O0, ρ, S, ?_⟩
  revert G
  unfold tAn
  cases fT ρ with
  | stuck => exact False.elim
  | exc c => exact id
  | ok k =>
    intro G H1 s1
    cases k with
    | true => rw [if_pos rfl]; exact ⟨H0, O0, ρ, S.step s1, GotT.later s1 G⟩
    | false => rw [if_neg Bool.false_ne_true]; exact G H1 s1
theorem w_or (ha : TJ X W a fT) (hb : WJ X W (.BoolOp .Or (b :: rest) pos) gT) : WJ X W (.BoolOp .Or (a :: b :: rest) pos) (tOr' fT gT) := by
  refine pw_imp (pw_or ha hb) fun σ H Q ⟨H0, O0, ρ, S, G⟩ => ⟨H0, O0, ρ, S, ?_⟩
  revert G
  unfold tOr'
  cases fT ρ with
  | stuck => exact False.elim
  | exc c => exact id
  | ok k =>
    intro G H1 s1
    cases k with
    | false => rw [if_neg Bool.false_ne_true]; exact ⟨H0, O0, ρ, S.step s1, GotT.later s1 G⟩
    | true => rw [if_pos rfl]; exact G H1 s1
/-- and, or, not as values -/
def eAn (f g : Rho → R PV) : Rho → R PV := fun ρ => (f ρ).bind fun p => (asB p).bind fun b => if b = true then g ρ else .ok (.bl false)
def eOr (f g : Rho → R PV) : Rho → R PV := fun ρ => (f ρ).bind fun p => (asB p).bind fun b => if b = true then .ok (.bl true) else g ρ
def notP : PV → R PV
  | .bl b => .ok (.bl (!b))
  | _ => .stuck
theorem e_one {op : BoolOp} (ha : EJ X W m a f) : EJ X W m (.BoolOp op [a] pos) f := pe_one ha
theorem e_and (ha : EJ X W .s a f) (hb : EJ X W .s (.BoolOp .And (b :: rest) pos) g) : EJ X W .s (.BoolOp .And (a :: b :: rest) pos) (eAn f g) := by
  refine pe_imp (pe_and ha hb) fun σ H Q ⟨H0, O0, ρ, S, G⟩ => ⟨H0, O0, ρ, S, ?_⟩
  revert G
  unfold eAn
  cases f ρ with
  | stuck => exact False.elim
  | exc c => exact id
  | ok p =>
    cases p with
    | bl k =>
      intro G v H1 s1 r1
      cases r1
      refine ⟨k, rfl, ?_⟩
      cases k with
      | true => rw [if_pos rfl]; exact ⟨H0, O0, ρ, S.step s1, Got.later s1 G⟩
      | false => rw [if_neg Bool.false_ne_true]; exact G _ H1 s1 (.bl false)
    | _ => exact False.elim
theorem e_not (ha : EJ X W .s a f) : EJ X W .s (.UnaryOp .Not a pos) (e1 notP f) := by
  refine pe_imp (pe_not ha) fun σ H Q ⟨H0, O0, ρ, S, G⟩ => ⟨H0, O0, ρ, S, ?_⟩
  revert G
  unfold e1
  cases f ρ with
  | stuck => exact False.elim
  | exc c => exact id
  | ok p =>
    cases p with
    | bl k => exact fun G v H1 s1 r1 => by cases r1; exact ⟨k, rfl, G _ H1 s1 (.bl _)⟩
    | _ => exact False.elim
def eIf (t : Rho → R Bool) (f g : Rho → R PV) : Rho → R PV := fun ρ => (t ρ).bind fun b => if b = true then f ρ else g ρ
def aNil : Rho → R (List PV) := fun _ => .ok []
def aCons (f : Rho → R PV) (g : Rho → R (List PV)) : Rho → R (List PV) := fun ρ => (f ρ).bind fun p => (g ρ).bind fun ps => .ok (p :: ps)
variable {es : List Expr} {fA : Rho → R (List PV)}
theorem a_nil : AJ X W m [] aNil := by
  refine pa_imp pa_nil fun σ H Q ⟨H0, O0, ρ, S, G⟩ => ?_
  exact G [] H (Same.refl H) .nil
theorem a_cons (ha : EJ X W m e f) (hr : AJ X W m es fA) (hs : starEach (e :: es) X.env = (false, eval e X.env) :: starEach es X.env := by rfl) : AJ X W m (e :: es) (aCons f fA) := by
  refine pa_imp (pa_cons ha hr hs) fun σ H Q ⟨H0, O0, ρ, S, G⟩ => ⟨H0, O0, ρ, S, ?_⟩
  revert G
  unfold aCons
  cases f ρ with
  | stuck => exact False.elim
  | exc c => exact id
  | ok p =>
    intro G v H1 s1 r1
    refine ⟨H0, O0, ρ, S.step s1, ?_⟩
    revert G
    rw [R.bind_ok]
    cases fA ρ with
    | stuck => exact False.elim
    | exc c => exact fun G C H' s' => G C H' (s1.trans s')
    | ok ps =>
      intro G vs H2 s2 r2
      refine G (v :: vs) H2 (s1.trans s2) (.cons (r1.step s2) ?_)
      exact Paired.mapP r2 fun _ _ z => z.back s1
theorem reps_of {K : PySem.W.Frag} {O0 : Addr → Prop} {σ : St} {ρ : Rho} {H H' : Hp} : ∀ {vs : List V} {ps : List PV}, Paired (RepM K O0 σ ρ .s H H') vs ps → Reps K H' (OO O0 σ ρ) vs ps
  | _, _, .nil => .nil
  | _, _, .cons h r => .cons h (reps_of r)
theorem same_new {H : Hp} {p : Addr} {o : HO} (h : H p = none) : Same H (upd H p o) := fun b x z => by
  rw [upd_ne (ne_of_none z h)]; exact z
def tupP (ps : List PV) : R PV := if ps.length ≤ sizeLine then .ok (.tup ps) else .stuck
def lstP (ps : List PV) : R PV := if ps.length ≤ sizeLine then .ok (.lst ps) else .stuck
def eD (g : List PV → R PV) (f : Rho → R (List PV)) : Rho → R PV := fun ρ => (f ρ).bind g
theorem new_tup {K : PySem.W.Frag} {H0 H H1 : Hp} {O0 : Addr → Prop} {σ : St} {ρ : Rho} (S : StR K H0 O0 H1 σ ρ) {vs : List V} {ps : List PV} (r : Reps K H1 (OO O0 σ ρ) vs ps) {p : Addr} (hp : H1 p = none) : Rep K (upd H1 p (.tup vs)) (OO O0 σ ρ) (.ref p) (.tup ps) :=
  .tup (.inl ⟨upd_same, fun z => S.there z hp⟩) (r.same (same_new hp))
theorem new_lst {K : PySem.W.Frag} {H0 H H1 : Hp} {O0 : Addr → Prop} {σ : St} {ρ : Rho} (s : Same H H1) {vs : List V} {ps : List PV} (r : Reps K H1 (OO O0 σ ρ) vs ps) {p : Addr} (hp : H1 p = none) : RepM K O0 σ ρ .f H (upd H1 p (.lst vs)) (.ref p) (.lst ps) :=
  ⟨p, vs, ps, rfl, rfl, s.free hp, upd_same, r.mono fun b o hb nb => ⟨same_new hp b o hb, fun z => z.elim nb fun z => by rw [z, hp] at hb; cases hb⟩⟩
theorem e_tup {k : Nat} (h : AJ X W .s es fA) : EJ X W .s (.Tuple es k pos) (eD tupP fA) := by
  refine pe_imp (pe_tup h) fun σ H Q ⟨H0, O0, ρ, S, G⟩ => ⟨H0, O0, ρ, S, ?_⟩
  revert G
  unfold eD
  cases fA ρ with
  | stuck => exact False.elim
  | exc c => exact id
  | ok ps =>
    intro G vs H1 s1 r1
    have rr := reps_of r1
    revert G
    rw [R.bind_ok]
    unfold tupP
    split
    · rename_i hz
      exact fun G => ⟨by rw [rr.length]; exact hz, fun p hp => G _ _ (s1.trans (same_new hp)) (new_tup (H := H) (S.step s1) rr hp)⟩
    · exact False.elim
theorem e_lst (h : AJ X W .s es fA) : EJ X W .f (.List es pos) (eD lstP fA) := by
  refine pe_imp (pe_lst h) fun σ H Q ⟨H0, O0, ρ, S, G⟩ => ⟨H0, O0, ρ, S, ?_⟩
  revert G
  unfold eD
  cases fA ρ with
  | stuck => exact False.elim
  | exc c => exact id
  | ok ps =>
    intro G vs H1 s1 r1
    have rr := reps_of r1
    revert G
    rw [R.bind_ok]
    unfold lstP
    split
    · rename_i hz
      exact fun G => ⟨by rw [rr.length]; exact hz, fun p hp => G _ _ (s1.trans (same_new hp)) (new_lst (H0 := H0) s1 rr hp)⟩
    · exact False.elim
theorem e_callB {x : Str} {p : Pos} {id : String} {r : List V → Hp → VK → Prop} {g' : List PV → R PV} (hc : CallR X (.builtin id) r) (hgn : ∀ ps c, g' ps ≠ .exc c) (ho : CallS X.K r m1 m g') (hg : Gl X x) (hm : X.mg x = none) (hv : bootBuiltins x = some (.builtin id)) (ha : AJ X W m1 (e :: es) fA) (hn : x ≠ "__name__" := by decide) (hdb : (x == ("__debug__" : Str)) = false := by decide)
    (he : starEach (e :: es) X.env = (false, eval e X.env) :: starEach es X.env := by rfl) (hpl : (backTo pos (starEach es X.env)).any (·.1) = false := by rfl) : EJ X W m (.Call (.Name x p) (e :: es) [] pos) (eD g' fA) := by
  refine pe_imp (pe_callB hc hg hm hv ha hn hdb he hpl) fun σ H Q ⟨H0, O0, ρ, S, G⟩ => ⟨H0, O0, ρ, S, ?_⟩
  revert G
  unfold eD
  cases fA ρ with
  | stuck => exact False.elim
  | exc c => exact fun G => G
  | ok ps => exact fun G vs H1 s1 r1 => ho S s1 r1 (Got.v (hgn ps) s1 G)
theorem e_callTy {x : Str} {p : Pos} {T : String} {r : List V → Hp → VK → Prop} {g' : List PV → R PV} (hc : CallR X (.type T) r) (hgn : ∀ ps c, g' ps ≠ .exc c) (ho : CallS X.K r m1 m g') (hg : Gl X x) (hm : X.mg x = none) (hv : bootBuiltins x = some (.type T)) (ha : AJ X W m1 (e :: es) fA) (hn : x ≠ "__name__" := by decide) (hdb : (x == ("__debug__" : Str)) = false := by decide)
    (he : starEach (e :: es) X.env = (false, eval e X.env) :: starEach es X.env := by rfl) (hpl : (backTo pos (starEach es X.env)).any (·.1) = false := by rfl) : EJ X W m (.Call (.Name x p) (e :: es) [] pos) (eD g' fA) := by
  refine pe_imp (pe_callTy hc hg hm hv ha hn hdb he hpl) fun σ H Q ⟨H0, O0, ρ, S, G⟩ => ⟨H0, O0, ρ, S, ?_⟩
  revert G
  unfold eD
  cases fA ρ with
  | stuck => exact False.elim
  | exc c => exact fun G => G
  | ok ps => exact fun G vs H1 s1 r1 => ho S s1 r1 (Got.v (hgn ps) s1 G)
def RepR (K : PySem.W.Frag) (O : Addr → Prop) : Bool → Hp → Hp → V → PV → Prop
  | false, _, H', v, p => Rep K H' O v p
  | true, H, H', v, p => ∃ a vs ps, v = .ref a ∧ p = .lst ps ∧ H a = none ∧ H' a = some (.lst vs) ∧ Reps K H' (fun b => O b ∨ b = a) vs ps
/-- the def's promise: n arguments; the function of their values; whether what it hands back is a new list -/
def spF (K : PySem.W.Frag) (mg : Str → Option Value) (n : Nat) (nw : Bool) (F : List PV → R PV) : Sp := fun vs H Q E =>
  ∃ ps O, (∀ a, O a → H a ≠ none) ∧ Reps K H O vs ps ∧ vs.length = n ∧ (match F ps with
    | .ok p => ∀ v H', Same H H' → RepR K O nw H H' v p → Q v H'
    | .exc c => ∀ C H', Same H H' → mg c = some (.ref C) → E (.ref C) none H'
    | .stuck => False)
def mdR : Bool → Md | false => .s | true => .f
theorem e_call {x : Str} {p : Pos} {k : Nat} {fa : Addr} {fd : FuncData} {pn : List Str} {n : Nat} {nw : Bool} {F : List PV → R PV} {dvs : List V} {dps : List PV} {ds : List Value} (Fo : FnOk X.prog X.w X.K X.mg X.base (L2N.CX X.prog X.w) k fa fd pn (spF X.K X.mg n nw F)) (hr : Room k X.A) (hg : Gl X x) (hm : X.mg x = some (.ref fa))
    (hk : PySem.W.keepIn X.K (.ref fa) = true) (hb : L2.Binds X.K fd pn ds) (hd : Vals dvs ds) (hdp : ∀ H O, Reps X.K H O dvs dps) (tk : L2N.Takes X W) (ha : AJ X W .s (e :: es) fA) (hlen : n = es.length + 1 + dvs.length := by rfl) (hal : ∀ ρ ps, fA ρ = .ok ps → ps.length = es.length + 1) (hdb : (x == ("__debug__" : Str)) = false := by decide)
    (he : starEach (e :: es) X.env = (false, eval e X.env) :: starEach es X.env := by rfl) (hpl : (backTo pos (starEach es X.env)).any (·.1) = false := by rfl) : EJ X W (mdR nw) (.Call (.Name x p) (e :: es) [] pos) (eD (fun ps => F (ps ++ dps)) fA) := by
  refine pe_imp (pe_callSD (E := fun σ cls d H => W cls d σ H) Fo hr hg hm hk hb hd (fun σ => L2N.passAt tk σ) ha hdb he hpl) fun σ H Q ⟨H0, O0, ρ, S, G⟩ => ⟨H0, O0, ρ, S, ?_⟩
  revert G
  unfold eD
  cases hA : fA ρ with
  | stuck => exact False.elim
  | exc c => exact id
  | ok ps =>
    intro G vs H1 s1 r1
    have rr := reps_of r1
    refine ⟨ps ++ dps, OO O0 σ ρ, fun a z => (S.step s1).there z, rr.append (hdp _ _), ?_, ?_⟩
    · rw [List.length_append, rr.length, hal ρ ps hA, hlen]
    · revert G
      rw [R.bind_ok]
      cases F (ps ++ dps) with
      | stuck => exact id
      | exc c => exact fun G C H' s' e => G C H' (s1.trans s') e
      | ok p =>
        intro G v H' s' r'
        refine G v H' (s1.trans s') ?_
        cases nw with
        | false => exact r'
        | true =>
          obtain ⟨a, vs', ps', q1, q2, q3, q4, q5⟩ := r'
          exact ⟨a, vs', ps', q1, q2, s1.free q3, q4, q5⟩
end
end PL
set_option Elab.async false
set_option linter.all false
set_option maxRecDepth 100000
set_option autoImplicit false
namespace PL
open PySem PySem.Spec L2
open PyProof.Rows hiding St
section
variable {K : PySem.W.Frag} {H0 H H1 H2 : Hp} {O0 : Addr → Prop} {σ : St} {ρ : Rho} {x : V} {p : PV}
theorem rt_int {i : Int} (r : RepM K O0 σ ρ .t H H2 x (.int i)) : x = .int i := by
  rcases r with r | ⟨_, _, _, _, e, _⟩
  · cases r; rfl
  · cases e
theorem rt_bl {i : Bool} (r : RepM K O0 σ ρ .t H H2 x (.bl i)) : x = .bl i := by
  rcases r with r | ⟨_, _, _, _, e, _⟩
  · cases r; rfl
  · cases e
theorem rt_str {i : Str} (r : RepM K O0 σ ρ .t H H2 x (.str i)) : x = .str i := by
  rcases r with r | ⟨_, _, _, _, e, _⟩
  · cases r; rfl
  · cases e
theorem rt_lst {l : List PV} (r : RepM K O0 σ ρ .t H H2 x (.lst l)) : ∃ a vs, x = .ref a ∧ H2 a = some (.lst vs) ∧ Reps K H2 (OO O0 σ ρ) vs l := by
  rcases r with r | ⟨a, vs, ps, e1, e2, e3, e4⟩
  · cases r with
    | lst h _ r => exact ⟨_, _, rfl, h, r⟩
  · cases e2; exact ⟨a, vs, e1, e3, e4⟩
theorem sqT_of {O : Addr → Prop} {a : Addr} {xs : List V} (h : H a = some (.tup xs) ∧ ¬ O a ∨ KT K a xs) : SqT K H a xs := by
  rcases h with ⟨h, _⟩ | h
  · exact .inl (.inl h)
  · exact .inr h
theorem rt_tup {l : List PV} (r : RepM K O0 σ ρ .t H H2 x (.tup l)) : ∃ a vs, x = .ref a ∧ (H2 a = some (.tup vs) ∧ ¬ OO O0 σ ρ a ∨ KT K a vs) ∧ Reps K H2 (OO O0 σ ρ) vs l := by
  rcases r with r | ⟨a, vs, ps, e1, e2, e3, e4⟩
  · cases r with
    | tup h r => exact ⟨_, _, rfl, h, r⟩
  · cases e2
theorem rt_frz {l : List PV} (r : RepM K O0 σ ρ .t H H2 x (.frz l)) : ∃ (a : Addr) (ns : List Int), x = .ref a ∧ l = ns.map PV.int ∧ SqL K H2 a (ns.map V.int) := by
  rcases r with r | ⟨a, vs, ps, e1, e2, e3, e4⟩
  · generalize hl : PV.frz l = q at r
    cases r with
    | frz h =>
      cases hl
      refine ⟨_, _, rfl, rfl, ?_⟩
      rcases h with ⟨⟨o, h⟩, _⟩ | h
      · exact .inl (.inr ⟨o, h⟩)
      · exact h _
    | _ => cases hl
  · cases e2
end
def addP : PV → PV → R PV
  | .int a, .int b => .ok (.int (a + b))
  | .str a, .str b => if a.length + b.length ≤ sizeLine then .ok (.str (a ++ b)) else .stuck
  | .tup a, .tup b => if a.length + b.length ≤ sizeLine then .ok (.tup (a ++ b)) else .stuck
  | .lst a, .lst b => if a.length + b.length ≤ sizeLine then .ok (.lst (a ++ b)) else .stuck
  | _, _ => .stuck
theorem addP_exc (p q : PV) (c : Str) : addP p q ≠ .exc c := by
  unfold addP; split <;> (try split) <;> exact fun z => nomatch z
def rAddP (K : PySem.W.Frag) : R2 := fun x y H Q => rI0 (fun i j => .int (i + j)) x y H Q ∨ (∃ i j, x = .str i ∧ y = .str j ∧ i.length + j.length ≤ sizeLine ∧ Q (.str (i ++ j)) H) ∨ rCatA K x y H Q ∨ rCat x y H Q
theorem op_addP {X : Cx} : OpR X (binaryOp .Add) (rAddP X.K) := op_add.or (op_add_str.or (op_catA.or op_cat))
theorem cat_s {K : PySem.W.Frag} {H0 H H2 : Hp} {O0 : Addr → Prop} {σ : St} {ρ : Rho} {x y : V} {a b : List PV} {Q : VK} (S : StR K H0 O0 H σ ρ) (s : Same H H2) (rx : RepM K O0 σ ρ .t H H2 x (.lst a)) (ry : RepM K O0 σ ρ .t H H2 y (.lst b))
    (hz : a.length + b.length ≤ sizeLine) (G : ∀ v H', Same H2 H' → RepM K O0 σ ρ .f H H' v (.lst (a ++ b)) → Q v H') : rCat x y H2 Q := by
  obtain ⟨c, vs, rfl, h1, r1⟩ := rt_lst rx
  obtain ⟨d, ws, rfl, h2, r2⟩ := rt_lst ry
  exact ⟨c, d, vs, ws, rfl, rfl, h1, h2, by rw [r1.length, r2.length]; exact hz, fun l hl => G _ _ (same_new hl) (new_lst (H0 := H0) s (r1.append r2) hl)⟩
theorem s_addP (K : PySem.W.Frag) : OpS K (rAddP K) .t .t .s addP := by
  intro H0 O0 σ ρ H H2 x y p q Q S s rx ry G
  unfold addP at G
  split at G
  · rw [rt_int rx, rt_int ry]; exact .inl ⟨_, _, rfl, rfl, G _ _ (Same.refl _) (.int _)⟩
  · split at G
    · rename_i hz
      rw [rt_str rx, rt_str ry]; exact .inr (.inl ⟨_, _, rfl, rfl, hz, G _ _ (Same.refl _) (.str _)⟩)
    · exact G.elim
  · split at G
    · rename_i hz
      obtain ⟨c, vs, rfl, h1, r1⟩ := rt_tup rx
      obtain ⟨d, ws, rfl, h2, r2⟩ := rt_tup ry
      refine .inr (.inr (.inl ⟨c, d, vs, ws, rfl, rfl, sqT_of h1, sqT_of h2, by rw [r1.length, r2.length]; exact hz, fun e => ?_, fun _ e => ?_, fun _ _ l hl => ?_⟩))
      · subst e
        cases r1
        exact G _ _ (Same.refl _) (.tup h2 r2)
      · subst e
        cases r2
        rw [List.append_nil] at G
        exact G _ _ (Same.refl _) (.tup h1 r1)
      · exact G _ _ (same_new hl) (new_tup (H := H) (S.step s) (r1.append r2) hl)
    · exact G.elim
  · split at G
    · rename_i hz
      exact .inr (.inr (.inr (cat_s S s rx ry hz fun v H' s' r' => G v H' s' (RepM.f_s S r'))))
    · exact G.elim
  · exact G.elim
/-- an operation of two ints -/
def intP (c : Int → Int → Bool) (g : Int → Int → PV) : PV → PV → R PV
  | .int a, .int b => if c a b = true then .ok (g a b) else .stuck
  | _, _ => .stuck
theorem intP_exc {c : Int → Int → Bool} {g : Int → Int → PV} (p q : PV) (k : Str) : intP c g p q ≠ .exc k := by
  unfold intP; split <;> (try split) <;> exact fun z => nomatch z
theorem s_int {K : PySem.W.Frag} {C : Int → Int → Prop} {c : Int → Int → Bool} {gv : Int → Int → V} {g : Int → Int → PV} (hc : ∀ a b, c a b = true → C a b) (hr : ∀ H O a b, Rep K H O (gv a b) (g a b)) : OpS K (rI C gv) .t .t .s (intP c g) := by
  intro H0 O0 σ ρ H H2 x y p q Q S s rx ry G
  unfold intP at G
  split at G
  · split at G
    · rename_i hz
      rw [rt_int rx, rt_int ry]; exact ⟨_, _, rfl, rfl, hc _ _ hz, G _ _ (Same.refl _) (hr _ _ _ _)⟩
    · exact G.elim
  · exact G.elim
theorem s_int0 {K : PySem.W.Frag} {gv : Int → Int → V} {g : Int → Int → PV} (hr : ∀ H O a b, Rep K H O (gv a b) (g a b)) : OpS K (rI0 gv) .t .t .s (intP (fun _ _ => true) g) := by
  intro H0 O0 σ ρ H H2 x y p q Q S s rx ry G
  unfold intP at G
  split at G
  · rw [if_pos rfl] at G
    rw [rt_int rx, rt_int ry]; exact ⟨_, _, rfl, rfl, G _ _ (Same.refl _) (hr _ _ _ _)⟩
  · exact G.elim
abbrev subP := intP (fun _ _ => true) fun a b => .int (a - b)
abbrev okMul (a b : Int) : Bool := decide (a.natAbs.log2 + b.natAbs.log2 < 100000000)
/-- factors of together less than a hundred million bits -/
def CMulV (i j : Int) : Prop := i.natAbs.log2 + j.natAbs.log2 < 100000000
theorem CMulV.okM {i j : Int} (h : CMulV i j) : IntMulOk i j := by
  have b : ∀ y : Int, Builtin.Int.intBits y ≤ y.natAbs.log2 + 1 := fun y => by unfold Builtin.Int.intBits; split <;> omega
  have h1 := b i
  have h2 := b j
  unfold CMulV at h
  exact CMulX.ok (show CMulX i j by unfold CMulX; omega)
theorem op_mulV {X : Cx} : OpR X (binaryOp .Mult) (rI CMulV fun i j => .int (i * j)) := opI fun _ _ _ _ _ _ _ hc q => mul_int q hc.okM
abbrev mulP := intP okMul fun a b => .int (a * b)
abbrev okDiv (_ b : Int) : Bool := decide (b ≠ 0) && decide (b.natAbs.log2 < 9000)
abbrev fdivP := intP okDiv fun a b => .int (a.fdiv b)
abbrev modP := intP (fun _ b => decide (b ≠ 0)) fun a b => .int (a.fmod b)
abbrev okPow (a b : Int) : Bool := decide (0 ≤ b) && decide (b ≤ 1000000) && decide (a.natAbs < 2 ^ 64)
abbrev powP := intP okPow fun a b => .int (a ^ b.toNat)
abbrev ltP := intP (fun _ _ => true) fun a b => .bl (decide (a < b))
abbrev leP := intP (fun _ _ => true) fun a b => .bl (decide (a ≤ b))
abbrev gtP := intP (fun _ _ => true) fun a b => .bl (decide (b < a))
abbrev geP := intP (fun _ _ => true) fun a b => .bl (decide (b ≤ a))
def CDivA (i j : Int) : Prop := j ≠ 0 ∧ j.natAbs.log2 < 9000
theorem op_fdivA {X : Cx} : OpR X (binaryOp .FloorDiv) (rI CDivA fun i j => .int (i.fdiv j)) := opI fun i j _ _ _ _ _ hc q => floordiv_int hc.1 q (.inl (PyProof.noPylong_of_log2 hc.2))
theorem okDiv_C (a b : Int) (h : okDiv a b = true) : CDivA a b := by
  rw [Bool.and_eq_true, decide_eq_true_eq, decide_eq_true_eq] at h; exact h
theorem okPow_C (a b : Int) (h : okPow a b = true) : CPow a b := by
  rw [Bool.and_eq_true, Bool.and_eq_true, decide_eq_true_eq, decide_eq_true_eq, decide_eq_true_eq] at h; exact ⟨h.1.1, h.1.2, h.2⟩
section
variable {X : Cx} {W : WX} {e a b c : Expr} {pos : Pos} {m : Md} {f g h : Rho → R PV}
theorem e_add (ha : EJ X W .t a f) (hb : EJ X W .t b g) : EJ X W .s (.BinOp a .Add b pos) (e2 addP f g) := e_op op_addP addP_exc (s_addP _) ha hb
theorem e_sub (ha : EJ X W .t a f) (hb : EJ X W .t b g) : EJ X W .s (.BinOp a .Sub b pos) (e2 subP f g) := e_op op_sub intP_exc (s_int0 fun _ _ _ _ => .int _) ha hb
theorem e_mul (ha : EJ X W .t a f) (hb : EJ X W .t b g) : EJ X W .s (.BinOp a .Mult b pos) (e2 mulP f g) := e_op op_mulV intP_exc (s_int (fun _ _ h => of_decide_eq_true h) fun _ _ _ _ => .int _) ha hb
theorem e_fdiv (ha : EJ X W .t a f) (hb : EJ X W .t b g) : EJ X W .s (.BinOp a .FloorDiv b pos) (e2 fdivP f g) := e_op op_fdivA intP_exc (s_int okDiv_C fun _ _ _ _ => .int _) ha hb
theorem e_mod (ha : EJ X W .t a f) (hb : EJ X W .t b g) : EJ X W .s (.BinOp a .Mod b pos) (e2 modP f g) := e_op op_modN intP_exc (s_int (fun _ _ h => of_decide_eq_true h) fun _ _ _ _ => .int _) ha hb
theorem e_pow (ha : EJ X W .t a f) (hb : EJ X W .t b g) : EJ X W .s (.BinOp a .Pow b pos) (e2 powP f g) := e_op op_pow intP_exc (s_int okPow_C fun _ _ _ _ => .int _) ha hb
theorem e_gt (ha : EJ X W .t a f) (hb : EJ X W .t b g) : EJ X W .s (.Compare a [.Gt] [b] pos) (e2 gtP f g) := e_cmp op_gt intP_exc (s_int0 fun _ _ _ _ => .bl _) ha hb (nomark _)
theorem e_ge (ha : EJ X W .t a f) (hb : EJ X W .t b g) : EJ X W .s (.Compare a [.GtE] [b] pos) (e2 geP f g) := e_cmp op_ge intP_exc (s_int0 fun _ _ _ _ => .bl _) ha hb (nomark _)
theorem t_lt (ha : EJ X W .t a f) (hb : EJ X W .t b g) : TJ X W (.Compare a [.Lt] [b] pos) (tB1 (e2 ltP f g)) := t_cmp op_lt intP_exc (s_int0 fun _ _ _ _ => .bl _) ha hb (nomark _)
theorem t_gt (ha : EJ X W .t a f) (hb : EJ X W .t b g) : TJ X W (.Compare a [.Gt] [b] pos) (tB1 (e2 gtP f g)) := t_cmp op_gt intP_exc (s_int0 fun _ _ _ _ => .bl _) ha hb (nomark _)
theorem t_ge (ha : EJ X W .t a f) (hb : EJ X W .t b g) : TJ X W (.Compare a [.GtE] [b] pos) (tB1 (e2 geP f g)) := t_cmp op_ge intP_exc (s_int0 fun _ _ _ _ => .bl _) ha hb (nomark _)
def negP : PV → R PV
  | .int a => .ok (.int (-a))
  | _ => .stuck
theorem e_neg (ha : EJ X W .t a f) : EJ X W .s (.UnaryOp .USub a pos) (e1 negP f) := by
  refine e_un un_neg (fun p c => ?_) ?_ ha
  · unfold negP; split <;> exact fun z => nomatch z
  · intro H0 O0 σ ρ H H2 x p Q S s rx G
    unfold negP at G
    split at G
    · rw [rt_int rx]; exact ⟨_, rfl, G _ _ (Same.refl _) (.int _)⟩
    · exact G.elim
end
mutual
def toD : PV → PyData
  | .non => .none
  | .bl b => .bool b
  | .int i => .int i
  | .str s => .str s
  | .tup l => .tuple (toDs l)
  | .lst l => .list (toDs l)
  | .frz l => .list (toDs l)
  | .dct => .dict []
def toDs : List PV → List PyData
  | [] => []
  | p :: ps => toD p :: toDs ps
end
mutual
def eqV' : PV → PV → Bool
  | .non, .non => true
  | .bl a, .bl b => a == b
  | .bl a, .int j => (if a then 1 else 0) == j
  | .int i, .bl b => i == (if b then 1 else 0)
  | .int i, .int j => i == j
  | .str x, .str y => x == y
  | .lst xs, .lst ys => eqVs xs ys
  | .lst xs, .frz ys => eqVs xs ys
  | .frz xs, .lst ys => eqVs xs ys
  | .frz xs, .frz ys => eqVs xs ys
  | .tup xs, .tup ys => eqVs xs ys
  | _, _ => false
def eqVs : List PV → List PV → Bool
  | [], [] => true
  | x :: xs, y :: ys => eqV' x y && eqVs xs ys
  | _, _ => false
end
/-- data that may be compared, by how deep it is -/
def okD : Nat → PV → Bool
  | _, .non => true
  | _, .bl _ => true
  | _, .int _ => true
  | _, .str s => PySem.PyData.strOk s
  | n + 1, .tup l => l.all (okD n)
  | n + 1, .lst l => l.all (okD n)
  | n + 1, .frz l => l.all (okD n)
  | _, _ => false
def eqP (p q : PV) : R PV := if (okD 30 p && okD 30 q) = true then .ok (.bl (eqV' p q)) else .stuck
def neP (p q : PV) : R PV := if (okD 30 p && okD 30 q) = true then .ok (.bl (!eqV' p q)) else .stuck
mutual
theorem eqv_toD : ∀ p q : PV, PyData.eqv (toD p) (toD q) = eqV' p q
  | .lst a, .lst b | .lst a, .frz b | .frz a, .lst b | .frz a, .frz b | .tup a, .tup b => by simp only [toD, PyData.eqv, eqV', eqv_toDs a b]
  | .non, q | .bl _, q | .int _, q | .str _, q | .dct, q => by cases q <;> simp only [toD, PyData.eqv, eqV']
  | .lst a, .non | .lst a, .bl _ | .lst a, .int _ | .lst a, .str _ | .lst a, .tup _ | .lst a, .dct => by simp only [toD, PyData.eqv, eqV']
  | .frz a, .non | .frz a, .bl _ | .frz a, .int _ | .frz a, .str _ | .frz a, .tup _ | .frz a, .dct => by simp only [toD, PyData.eqv, eqV']
  | .tup a, .non | .tup a, .bl _ | .tup a, .int _ | .tup a, .str _ | .tup a, .lst _ | .tup a, .frz _ | .tup a, .dct => by simp only [toD, PyData.eqv, eqV']
theorem eqv_toDs : ∀ p q : List PV, PyData.eqvAll (toDs p) (toDs q) = eqVs p q
  | [], [] => by simp only [toDs, PyData.eqvAll, eqVs]
  | x :: xs, y :: ys => by simp only [toDs, PyData.eqvAll, eqVs, eqv_toD x y, eqv_toDs xs ys]
  | [], _ :: _ => by simp only [toDs, PyData.eqvAll, eqVs]
  | _ :: _, [] => by simp only [toDs, PyData.eqvAll, eqVs]
end
mutual
theorem okD_lay : ∀ (n : Nat) (p : PV), okD n p = true → (toD p).canLay0 = true ∧ (toD p).depth ≤ n
  | n, .non, _ => ⟨rfl, Nat.zero_le _⟩
  | n, .bl _, _ => ⟨rfl, Nat.zero_le _⟩
  | n, .int _, _ => ⟨rfl, Nat.zero_le _⟩
  | n, .str s, h => ⟨by simpa only [toD, PyData.canLay0, okD] using h, Nat.zero_le _⟩
  | n, .dct, h => by simp [okD] at h
  | 0, .tup l, h => by simp [okD] at h
  | 0, .lst l, h => by simp [okD] at h
  | 0, .frz l, h => by simp [okD] at h
  | n + 1, .tup l, h => by
    have z := okDs_lay n l (by simpa only [okD] using h)
    simp only [toD, PyData.canLay0, PyData.depth]
    exact ⟨z.1, by omega⟩
  | n + 1, .lst l, h => by
    have z := okDs_lay n l (by simpa only [okD] using h)
    simp only [toD, PyData.canLay0, PyData.depth]
    exact ⟨z.1, by omega⟩
  | n + 1, .frz l, h => by
    have z := okDs_lay n l (by simpa only [okD] using h)
    simp only [toD, PyData.canLay0, PyData.depth]
    exact ⟨z.1, by omega⟩
theorem okDs_lay : ∀ (n : Nat) (l : List PV), l.all (okD n) = true → PyData.canLayAll0 (toDs l) = true ∧ PyData.depthAll (toDs l) ≤ n
  | n, [], _ => ⟨rfl, Nat.zero_le _⟩
  | n, p :: ps, h => by
    rw [List.all_cons, Bool.and_eq_true] at h
    have z1 := okD_lay n p h.1
    have z2 := okDs_lay n ps h.2
    simp only [toDs, PyData.canLayAll0, PyData.depthAll, z1.1, z2.1]
    exact ⟨rfl, Nat.max_le.mpr ⟨z1.2, z2.2⟩⟩
end
theorem okD_shaped {p : PV} (h : okD 30 p = true) : SeqAt.shaped (toD p) = true := by
  have z := okD_lay 30 p h
  unfold SeqAt.shaped
  rw [z.1, decide_eq_true (show (toD p).depth ≤ 64 by omega)] <;> rfl
theorem dpAll_ints {K : PySem.W.Frag} {H : Hp} : ∀ ns : List Int, DpAll K H (ns.map V.int) (toDs (ns.map PV.int))
  | [] => by simp only [List.map_nil, toDs]; exact .nil
  | n :: ns => by simp only [List.map_cons, toDs, toD]; exact .cons (.int n) (dpAll_ints ns)
mutual
theorem rep_dp {K : PySem.W.Frag} {H : Hp} {O : Addr → Prop} : ∀ {v : V} {p : PV} (n : Nat), Rep K H O v p → okD n p = true → Dp K H v (toD p)
  | _, _, _, .non, _ => by simp only [toD]; exact .non
  | _, _, _, .bl b, _ => by simp only [toD]; exact .bl b
  | _, _, _, .int i, _ => by simp only [toD]; exact .int i
  | _, _, _, .str s, _ => by simp only [toD]; exact .str s
  | _, _, 0, .lst _ _ _, h => by simp [okD] at h
  | _, _, n + 1, .lst h1 _ r, h => by simp only [toD]; exact .lst (.inl (.inl h1)) (reps_dp n r (by simpa only [okD] using h))
  | _, _, 0, .tup _ _, h => by simp [okD] at h
  | _, _, n + 1, .tup h1 r, h => by simp only [toD]; exact .tup (sqT_of h1) (reps_dp n r (by simpa only [okD] using h))
  | _, _, _, .frz h1, h => by
    simp only [toD]
    refine .lst ?_ (dpAll_ints _)
    rcases h1 with ⟨⟨o, h1⟩, _⟩ | h1
    · exact .inl (.inr ⟨o, h1⟩)
    · exact h1 _
  | _, _, n, .dct _ _, h => by simp [okD] at h
theorem reps_dp {K : PySem.W.Frag} {H : Hp} {O : Addr → Prop} : ∀ {v : List V} {p : List PV} (n : Nat), Reps K H O v p → p.all (okD n) = true → DpAll K H v (toDs p)
  | _, _, _, .nil, _ => by simp only [toDs]; exact .nil
  | _, _, n, .cons h r, hz => by
    rw [List.all_cons, Bool.and_eq_true] at hz
    simp only [toDs]
    exact .cons (rep_dp n h hz.1) (reps_dp n r hz.2)
end
theorem rt_dp {K : PySem.W.Frag} {H H2 : Hp} {O0 : Addr → Prop} {σ : St} {ρ : Rho} {x : V} {p : PV} (r : RepM K O0 σ ρ .t H H2 x p) (h : okD 30 p = true) : Dp K H2 x (toD p) := by
  rcases r with r | ⟨a, vs, ps, rfl, rfl, e3, e4⟩
  · exact rep_dp 30 r h
  · simp only [toD]; exact .lst (.inl (.inl e3)) (reps_dp 29 e4 (by simpa only [okD] using h))
theorem eqP_exc (p q : PV) (c : Str) : eqP p q ≠ .exc c := by unfold eqP; split <;> exact fun z => nomatch z
theorem neP_exc (p q : PV) (c : Str) : neP p q ≠ .exc c := by unfold neP; split <;> exact fun z => nomatch z
theorem s_eq (K : PySem.W.Frag) : OpS K (rEqD K) .t .t .s eqP := by
  intro H0 O0 σ ρ H H2 x y p q Q S s rx ry G
  unfold eqP at G
  split at G
  · rename_i hz
    rw [Bool.and_eq_true] at hz
    exact ⟨_, _, rt_dp rx hz.1, rt_dp ry hz.2, okD_shaped hz.1, okD_shaped hz.2, by rw [eqv_toD]; exact G _ _ (Same.refl _) (.bl _)⟩
  · exact G.elim
theorem s_ne (K : PySem.W.Frag) : OpS K (rNeD K) .t .t .s neP := by
  intro H0 O0 σ ρ H H2 x y p q Q S s rx ry G
  unfold neP at G
  split at G
  · rename_i hz
    rw [Bool.and_eq_true] at hz
    exact ⟨_, _, rt_dp rx hz.1, rt_dp ry hz.2, okD_shaped hz.1, okD_shaped hz.2, by rw [eqv_toD]; exact G _ _ (Same.refl _) (.bl _)⟩
  · exact G.elim
section
variable {X : Cx} {W : WX} {e a b c : Expr} {pos : Pos} {m : Md} {f g h : Rho → R PV}
theorem e_eq (hu : X.A.units + 64 < cLine) (ha : EJ X W .t a f) (hb : EJ X W .t b g) : EJ X W .s (.Compare a [.Eq] [b] pos) (e2 eqP f g) := e_cmp (op_eqD hu) eqP_exc (s_eq _) ha hb (nomark _)
theorem e_ne (hu : X.A.units + 64 < cLine) (ha : EJ X W .t a f) (hb : EJ X W .t b g) : EJ X W .s (.Compare a [.NotEq] [b] pos) (e2 neP f g) := e_cmp (op_neD hu) neP_exc (s_ne _) ha hb (nomark _)
theorem t_eq (hu : X.A.units + 64 < cLine) (ha : EJ X W .t a f) (hb : EJ X W .t b g) : TJ X W (.Compare a [.Eq] [b] pos) (tB1 (e2 eqP f g)) := t_cmp (op_eqD hu) eqP_exc (s_eq _) ha hb (nomark _)
theorem t_ne (hu : X.A.units + 64 < cLine) (ha : EJ X W .t a f) (hb : EJ X W .t b g) : TJ X W (.Compare a [.NotEq] [b] pos) (tB1 (e2 neP f g)) := t_cmp (op_neD hu) neP_exc (s_ne _) ha hb (nomark _)
def eChain (g1 g2 : PV → PV → R PV) (f g h : Rho → R PV) : Rho → R PV := fun ρ => (f ρ).bind fun x => (g ρ).bind fun y => (g1 x y).bind fun z => (asB z).bind fun k => if k = true then (h ρ).bind fun w => g2 y w else .ok (.bl false)
end
end PL
set_option Elab.async false
set_option linter.all false
set_option maxRecDepth 100000
set_option autoImplicit false
namespace PL
open PySem PySem.Spec L2
open PyProof.Rows hiding St
def ixP : PV → PV → R PV
  | .lst l, .int i | .tup l, .int i | .frz l, .int i => match atI l i with
    | some p => .ok p
    | none => .stuck
  | .str s, .int i => if s.length ≤ sizeLine then (match atI s.cps.toList i with
    | some c => .ok (.str ⟨#[c]⟩)
    | none => .stuck) else .stuck
  | _, _ => .stuck
theorem ixP_exc (p q : PV) (c : Str) : ixP p q ≠ .exc c := by
  unfold ixP; split <;> (try split) <;> (try split) <;> exact fun z => nomatch z
theorem reps_at {K : PySem.W.Frag} {H : Hp} {O : Addr → Prop} {vs : List V} {ps : List PV} {i : Int} {p : PV} (r : Reps K H O vs ps) (h : atI ps i = some p) : ∃ v, atI vs i = some v ∧ Rep K H O v p := by
  unfold atI at h ⊢
  rw [r.length]
  cases q : ixN ps.length i with
  | none => rw [q] at h; cases h
  | some j =>
    rw [q, Option.bind_some] at h
    rw [Option.bind_some]
    exact r.get h
theorem s_ix (K : PySem.W.Frag) : OpS K (rIx K) .t .t .s ixP := by
  intro H0 O0 σ ρ H H2 x y p q Q S s rx ry G
  unfold ixP at G
  split at G
  · split at G
    · rename_i p hp
      obtain ⟨a, vs, rfl, h1, r1⟩ := rt_lst rx
      obtain ⟨v, h2, r2⟩ := reps_at r1 hp
      exact .inl ⟨a, vs, _, v, rfl, rt_int ry, .inl (.inl h1), h2, G _ _ (Same.refl _) r2⟩
    · exact G.elim
  · split at G
    · rename_i p hp
      obtain ⟨a, vs, rfl, h1, r1⟩ := rt_tup rx
      obtain ⟨v, h2, r2⟩ := reps_at r1 hp
      exact .inr (.inl ⟨a, vs, _, v, rfl, rt_int ry, sqT_of h1, h2, G _ _ (Same.refl _) r2⟩)
    · exact G.elim
  · split at G
    · rename_i p hp
      obtain ⟨a, ns, rfl, rfl, h1⟩ := rt_frz rx
      obtain ⟨v, h2, r2⟩ := reps_at (K := K) (H := H2) (O := OO O0 σ ρ) (Reps.ofInts ns) hp
      exact .inl ⟨a, _, _, v, rfl, rt_int ry, h1, h2, G _ _ (Same.refl _) r2⟩
    · exact G.elim
  · split at G
    · rename_i hz
      split at G
      · rename_i c hc
        exact .inr (.inr ⟨_, _, c, rt_str rx, rt_int ry, hz, hc, G _ _ (Same.refl _) (.str _)⟩)
      · exact G.elim
    · exact G.elim
  · exact G.elim
def cutG {α : Type} (xs : List α) (lo hi : Option Int) : List α := (xs.drop (HT.sIx xs.length 0 lo)).take (HT.sIx xs.length xs.length hi - HT.sIx xs.length 0 lo)
theorem reps_cut {K : PySem.W.Frag} {H : Hp} {O : Addr → Prop} {vs : List V} {ps : List PV} (lo hi : Option Int) (r : Reps K H O vs ps) : Reps K H O (cutV vs lo hi) (cutG ps lo hi) := by
  unfold cutV cutG
  rw [r.length]
  exact (r.drop _).take _
def slP (p : PV) (lo hi : Option Int) : R PV := match p with
  | .lst l | .frz l => .ok (.lst (cutG l lo hi))
  | .tup l => .ok (.tup (cutG l lo hi))
  | .str s => if s.length ≤ sizeLine then .ok (.str (cutS s lo hi)) else .stuck
  | _ => .stuck
def slL (p : PV) (lo hi : Option Int) : R PV := match p with
  | .lst l | .frz l => .ok (.lst (cutG l lo hi))
  | _ => .stuck
def asI : PV → R Int
  | .int i => .ok i
  | _ => .stuck
def oNone : Rho → R (Option Int) := fun _ => .ok none
def oSome (f : Rho → R PV) : Rho → R (Option Int) := fun ρ => (f ρ).bind fun p => (asI p).bind fun i => .ok (some i)
def eSl (g : PV → Option Int → Option Int → R PV) (f : Rho → R PV) (lo hi : Rho → R (Option Int)) : Rho → R PV := fun ρ => (f ρ).bind fun p => (lo ρ).bind fun l => (hi ρ).bind fun h => g p l h
def tO' (K : PySem.W.Frag) (mg : Str → Option Value) (W : WX) (f : Rho → R (Option Int)) : L2.TO := fun σ H Q =>
  ∃ H0 O0 ρ, StR K H0 O0 H σ ρ ∧ (match f ρ with
    | .ok o => ∀ H', Same H H' → Q o H'
    | .exc c => ∀ C H', Same H H' → mg c = some (.ref C) → W (.ref C) none σ H'
    | .stuck => False)
abbrev OJ (X : Cx) (W : WX) (e : Option Expr) (f : Rho → R (Option Int)) : Prop := PO X e (tO' X.K X.mg W f)
def SlS (K : PySem.W.Frag) (r : V → Option Int → Option Int → Hp → VK → Prop) (m : Md) (g : PV → Option Int → Option Int → R PV) : Prop :=
  ∀ {H0 O0 σ ρ H H2 x p lo hi} {Q : VK}, StR K H0 O0 H σ ρ → Same H H2 → RepM K O0 σ ρ .t H H2 x p → GotV K O0 σ ρ m H H2 Q (g p lo hi) → r x lo hi H2 Q
section
variable {X : Cx} {W : WX} {e a b c : Expr} {pos p2 : Pos} {m : Md} {f g h : Rho → R PV} {lo hi : Option Expr} {fl fh : Rho → R (Option Int)}
theorem po_imp {t t' : L2.TO} {e : Option Expr} (h : PO X e t) (q : ∀ σ H Q, t' σ H Q → t σ H Q) : PO X e t' := ⟨fun pins s σ H Q I hw => h.run pins s σ H Q I (q σ H Q hw)⟩
theorem o_none : OJ X W none oNone := by
  refine po_imp po_none fun σ H Q ⟨H0, O0, ρ, S, G⟩ => ?_
  exact G H (Same.refl H)
theorem o_some (ha : EJ X W .s e f) : OJ X W (some e) (oSome f) := by
  refine po_imp (po_some ha) fun σ H Q ⟨H0, O0, ρ, S, G⟩ => ⟨H0, O0, ρ, S, ?_⟩
  revert G
  unfold oSome
  cases f ρ with
  | stuck => exact False.elim
  | exc c => exact fun G => G
  | ok p =>
    cases p with
    | int i => exact fun G v H' s r => by cases r; exact ⟨i, rfl, G H' s⟩
    | _ => exact False.elim
theorem e_sl {r : V → Option Int → Option Int → Hp → VK → Prop} {g' : PV → Option Int → Option Int → R PV} (hr : SlR X r) (hg : ∀ p l h c, g' p l h ≠ .exc c) (ho : SlS X.K r m g') (ha : EJ X W .t a f) (hl : OJ X W lo fl) (hh : OJ X W hi fh) :
    EJ X W m (.Subscript a (.Slice lo hi none p2) pos) (eSl g' f fl fh) := by
  refine pe_imp (pe_slice hr ha hl hh) fun σ H Q ⟨H0, O0, ρ, S, G⟩ => ⟨H0, O0, ρ, S, ?_⟩
  revert G
  unfold eSl
  cases f ρ with
  | stuck => exact False.elim
  | exc c => exact fun G => G
  | ok p =>
    intro G x H1 s1 r1
    refine ⟨H0, O0, ρ, S.step s1, ?_⟩
    revert G
    rw [R.bind_ok]
    cases fl ρ with
    | stuck => exact False.elim
    | exc c => exact fun G C H' s' => G C H' (s1.trans s')
    | ok l =>
      intro G H2 s2
      refine ⟨H0, O0, ρ, S.step (s1.trans s2), ?_⟩
      revert G
      rw [R.bind_ok]
      cases fh ρ with
      | stuck => exact False.elim
      | exc c => exact fun G C H' s' => G C H' ((s1.trans s2).trans s')
      | ok h =>
        intro G H3 s3
        exact ho S ((s1.trans s2).trans s3) (r1.step (s2.trans s3)) (Got.v (hg p l h) ((s1.trans s2).trans s3) G)
def rSlP (K : PySem.W.Frag) : V → Option Int → Option Int → Hp → VK → Prop := fun x lo hi H Q => rSlL K x lo hi H Q ∨ rSlA K x lo hi H Q ∨ rSlS x lo hi H Q
theorem sl_P : SlR X (rSlP X.K) := sl_list.or (sl_tupA.or sl_str)
theorem slP_exc (p : PV) (l h : Option Int) (c : Str) : slP p l h ≠ .exc c := by
  unfold slP; split <;> (try split) <;> exact fun z => nomatch z
theorem sl_ints (ns : List Int) (lo hi : Option Int) : cutV (ns.map V.int) lo hi = (cutG ns lo hi).map V.int ∧ cutG (ns.map PV.int) lo hi = (cutG ns lo hi).map PV.int := by
  unfold cutV cutG
  rw [List.length_map, List.length_map, List.map_take, List.map_drop, List.map_take, List.map_drop]
  exact ⟨rfl, rfl⟩
theorem s_slL (K : PySem.W.Frag) : SlS K (rSlL K) .f slL := by
  intro H0 O0 σ ρ H H2 x p lo hi Q S s rx G
  unfold slL at G
  split at G
  · obtain ⟨a, vs, rfl, h1, r1⟩ := rt_lst rx
    exact ⟨a, vs, rfl, .inl (.inl h1), fun q hq => G _ _ (same_new hq) (new_lst (H0 := H0) s (reps_cut lo hi r1) hq)⟩
  · obtain ⟨a, ns, rfl, rfl, h1⟩ := rt_frz rx
    refine ⟨a, _, rfl, h1, fun q hq => G _ _ (same_new hq) ?_⟩
    rw [(sl_ints ns lo hi).1, (sl_ints ns lo hi).2]
    exact new_lst (H0 := H0) s (Reps.ofInts _) hq
  · exact G.elim
theorem s_slP (K : PySem.W.Frag) : SlS K (rSlP K) .s slP := by
  intro H0 O0 σ ρ H H2 x p lo hi Q S s rx G
  unfold slP at G
  split at G
  · exact .inl (s_slL K S s rx fun v H' s' r => G v H' s' (RepM.f_s S r))
  · exact .inl (s_slL K S s rx fun v H' s' r => G v H' s' (RepM.f_s S r))
  · obtain ⟨a, vs, rfl, h1, r1⟩ := rt_tup rx
    refine .inr (.inl ⟨a, vs, rfl, sqT_of h1, fun ⟨z1, z2⟩ => ?_, fun _ q hq => G _ _ (same_new hq) (new_tup (H := H) (S.step s) (reps_cut lo hi r1) hq)⟩)
    have e : ∀ {α : Type} (l : List α), l.length = vs.length → cutG l lo hi = l := fun l hl => by
      unfold cutG
      rw [hl, z1, z2, List.drop_zero, Nat.sub_zero, ← hl, List.take_length]
    rw [e _ r1.length.symm] at G
    exact G _ _ (Same.refl _) (.tup h1 r1)
  · split at G
    · rename_i hz
      exact .inr (.inr ⟨_, rt_str rx, hz, G _ _ (Same.refl _) (.str _)⟩)
    · exact G.elim
  · exact G.elim
theorem e_slice (ha : EJ X W .t a f) (hl : OJ X W lo fl) (hh : OJ X W hi fh) : EJ X W .s (.Subscript a (.Slice lo hi none p2) pos) (eSl slP f fl fh) := e_sl sl_P slP_exc (s_slP _) ha hl hh
theorem e_item (ha : EJ X W .t a f) (hb : EJ X W .t b g) (hs : PlainIx b) : EJ X W .s (.Subscript a b pos) (e2 ixP f g) := e_ix ix_seq ixP_exc (s_ix _) ha hb hs
end
def lenP : List PV → R PV
  | [.lst l] | [.tup l] | [.frz l] => .ok (.int l.length)
  | [.str s] => if s.length ≤ sizeLine then .ok (.int s.length) else .stuck
  | _ => .stuck
def absP : List PV → R PV
  | [.int i] => .ok (.int (if i < 0 then -i else i))
  | _ => .stuck
def intP1 : List PV → R PV
  | [.int i] => .ok (.int i)
  | [.bl k] => .ok (.int (if k then 1 else 0))
  | _ => .stuck
def listP : List PV → R PV
  | [.lst l] | [.tup l] | [.frz l] => .ok (.lst l)
  | _ => .stuck
def tupleP : List PV → R PV
  | [.lst l] | [.tup l] | [.frz l] => .ok (.tup l)
  | _ => .stuck
def asBs : List PV → Option (List Bool)
  | [] => some []
  | .bl b :: r => (asBs r).map (b :: ·)
  | _ => none
def allP : List PV → R PV
  | [.lst l] => match asBs l with
    | some bs => .ok (.bl (bs.all id))
    | none => .stuck
  | _ => .stuck
def divmodP : List PV → R PV
  | [.int i, .int j] => if 0 < j ∧ j.natAbs.log2 < 9000 then .ok (.tup [.int (i / j), .int (i % j)]) else .stuck
  | _ => .stuck
theorem asBs_map : ∀ {l : List PV} {bs : List Bool}, asBs l = some bs → l = bs.map PV.bl
  | [], _, h => by cases h; rfl
  | .bl b :: r, bs, h => by
    unfold asBs at h
    obtain ⟨cs, h1, rfl⟩ := Option.map_eq_some_iff.mp h
    rw [asBs_map h1]; rfl
  | .non :: _, _, h | .int _ :: _, _, h | .str _ :: _, _, h | .tup _ :: _, _, h | .lst _ :: _, _, h | .frz _ :: _, _, h | .dct :: _, _, h => by simp [asBs] at h
theorem asBs_of : ∀ bs : List Bool, asBs (bs.map PV.bl) = some bs
  | [] => rfl
  | b :: bs => by simp [asBs, asBs_of bs]
section
variable {X : Cx} {W : WX}
theorem pr1 {F : V → PV → Prop} {vs : List V} {p : PV} (h : Paired F vs [p]) : ∃ v, vs = [v] ∧ F v p := by
  cases h with
  | cons a r => cases r; exact ⟨_, rfl, a⟩
theorem pr2 {F : V → PV → Prop} {vs : List V} {p q : PV} (h : Paired F vs [p, q]) : ∃ v w, vs = [v, w] ∧ F v p ∧ F w q := by
  cases h with
  | cons a r =>
    obtain ⟨w, rfl, b⟩ := pr1 r
    exact ⟨_, _, rfl, a, b⟩
theorem s_len (K : PySem.W.Frag) : CallS K (fun xs H Q => ∃ x n, xs = [x] ∧ LenV K x H n ∧ Q (.int n) H) .t .s lenP := by
  intro H0 O0 σ ρ H H2 xs ps Q S s r G
  unfold lenP at G
  split at G
  · obtain ⟨v, rfl, r1⟩ := pr1 r
    obtain ⟨a, vs, rfl, h1, r2⟩ := rt_lst r1
    exact ⟨_, vs.length, rfl, .inl ⟨vs, .inl (.inl h1), rfl⟩, by rw [r2.length]; exact G _ _ (Same.refl _) (.int _)⟩
  · obtain ⟨v, rfl, r1⟩ := pr1 r
    obtain ⟨a, vs, rfl, h1, r2⟩ := rt_tup r1
    exact ⟨_, vs.length, rfl, .inr ⟨vs, sqT_of h1, rfl⟩, by rw [r2.length]; exact G _ _ (Same.refl _) (.int _)⟩
  · obtain ⟨v, rfl, r1⟩ := pr1 r
    obtain ⟨a, ns, rfl, rfl, h1⟩ := rt_frz r1
    refine ⟨_, _, rfl, .inl ⟨_, h1, rfl⟩, ?_⟩
    rw [List.length_map] at G ⊢
    exact G _ _ (Same.refl _) (.int _)
  · split at G
    · rename_i hz
      obtain ⟨v, rfl, r1⟩ := pr1 r
      rw [rt_str r1]
      exact ⟨_, _, rfl, ⟨hz, rfl⟩, G _ _ (Same.refl _) (.int _)⟩
    · exact G.elim
  · exact G.elim
theorem s_abs (K : PySem.W.Frag) : CallS K (fun xs H Q => ∃ i, xs = [.int i] ∧ Q (.int (if i < 0 then -i else i)) H) .t .s absP := by
  intro H0 O0 σ ρ H H2 xs ps Q S s r G
  unfold absP at G
  split at G
  · obtain ⟨v, rfl, r1⟩ := pr1 r
    rw [rt_int r1]; exact ⟨_, rfl, G _ _ (Same.refl _) (.int _)⟩
  · exact G.elim
theorem s_int1 (K : PySem.W.Frag) : CallS K (fun xs H Q => (∃ i, xs = [.int i] ∧ Q (.int i) H) ∨ ∃ k, xs = [.bl k] ∧ Q (.int (if k then 1 else 0)) H) .t .s intP1 := by
  intro H0 O0 σ ρ H H2 xs ps Q S s r G
  unfold intP1 at G
  split at G
  · obtain ⟨v, rfl, r1⟩ := pr1 r
    rw [rt_int r1]; exact .inl ⟨_, rfl, G _ _ (Same.refl _) (.int _)⟩
  · obtain ⟨v, rfl, r1⟩ := pr1 r
    rw [rt_bl r1]; exact .inr ⟨_, rfl, G _ _ (Same.refl _) (.int _)⟩
  · exact G.elim
theorem s_list (K : PySem.W.Frag) : CallS K (fun xs H Q => ∃ p ys, xs = [.ref p] ∧ (SqL K H p ys ∨ SqT K H p ys) ∧ ∀ l, H l = none → Q (.ref l) (upd H l (.lst ys))) .t .f listP := by
  intro H0 O0 σ ρ H H2 xs ps Q S s r G
  unfold listP at G
  split at G
  · obtain ⟨v, rfl, r1⟩ := pr1 r
    obtain ⟨a, vs, rfl, h1, r2⟩ := rt_lst r1
    exact ⟨a, vs, rfl, .inl (.inl (.inl h1)), fun l hl => G _ _ (same_new hl) (new_lst (H0 := H0) s r2 hl)⟩
  · obtain ⟨v, rfl, r1⟩ := pr1 r
    obtain ⟨a, vs, rfl, h1, r2⟩ := rt_tup r1
    exact ⟨a, vs, rfl, .inr (sqT_of h1), fun l hl => G _ _ (same_new hl) (new_lst (H0 := H0) s r2 hl)⟩
  · obtain ⟨v, rfl, r1⟩ := pr1 r
    obtain ⟨a, ns, rfl, rfl, h1⟩ := rt_frz r1
    exact ⟨a, _, rfl, .inl h1, fun l hl => G _ _ (same_new hl) (new_lst (H0 := H0) s (Reps.ofInts ns) hl)⟩
  · exact G.elim
theorem s_all (K : PySem.W.Frag) : CallS K (rAll K) .t .s allP := by
  intro H0 O0 σ ρ H H2 xs ps Q S s r G
  unfold allP at G
  split at G
  · split at G
    · rename_i bs hbs
      obtain ⟨v, rfl, r1⟩ := pr1 r
      rw [asBs_map hbs] at r1
      obtain ⟨a, vs, rfl, h1, r2⟩ := rt_lst r1
      rw [r2.bls] at h1
      exact ⟨a, bs, rfl, .inl (.inl h1), G _ _ (Same.refl _) (.bl _)⟩
    · exact G.elim
  · exact G.elim
theorem noPy {i j : Int} (h : j.natAbs.log2 < 9000) : Builtin.divisionGoesByPylong i j = false := PyProof.noPylong_of_log2 h
theorem s_divmod (K : PySem.W.Frag) : CallS K (fun xs H Q => ∃ i j, xs = [.int i, .int j] ∧ CDivP i j ∧ ∀ p, H p = none → Q (.ref p) (upd H p (.tup [.int (i / j), .int (i % j)]))) .t .s divmodP := by
  intro H0 O0 σ ρ H H2 xs ps Q S s r G
  unfold divmodP at G
  split at G
  · split at G
    · rename_i hz
      obtain ⟨v, w, rfl, r1, r2⟩ := pr2 r
      rw [rt_int r1, rt_int r2]
      exact ⟨_, _, rfl, ⟨hz.1, noPy hz.2⟩, fun l hl => G _ _ (same_new hl) (new_tup (H := H) (S.step s) (.cons (.int _) (.cons (.int _) .nil)) hl)⟩
    · exact G.elim
  · exact G.elim
theorem lenP_exc (ps : List PV) (c : Str) : lenP ps ≠ .exc c := by unfold lenP; split <;> (try split) <;> exact fun z => nomatch z
theorem absP_exc (ps : List PV) (c : Str) : absP ps ≠ .exc c := by unfold absP; split <;> exact fun z => nomatch z
theorem intP1_exc (ps : List PV) (c : Str) : intP1 ps ≠ .exc c := by unfold intP1; split <;> exact fun z => nomatch z
theorem listP_exc (ps : List PV) (c : Str) : listP ps ≠ .exc c := by unfold listP; split <;> exact fun z => nomatch z
theorem allP_exc (ps : List PV) (c : Str) : allP ps ≠ .exc c := by unfold allP; split <;> (try split) <;> exact fun z => nomatch z
theorem divmodP_exc (ps : List PV) (c : Str) : divmodP ps ≠ .exc c := by unfold divmodP; split <;> (try split) <;> exact fun z => nomatch z
variable {e : Expr} {es : List Expr} {pos p : Pos} {fA : Rho → R (List PV)} {f : Rho → R PV}
theorem e_len (mg : X.mg "len" = none) (hg : Gl X "len") (ha : AJ X W .t [e] fA) (he : starEach [e] X.env = (false, eval e X.env) :: starEach [] X.env := by rfl) : EJ X W .s (.Call (.Name "len" p) [e] [] pos) (eD lenP fA) := e_callB call_len lenP_exc (s_len _) hg mg PySem.boot_len ha (he := he)
theorem e_abs (mg : X.mg "abs" = none) (hg : Gl X "abs") (ha : AJ X W .t [e] fA) (he : starEach [e] X.env = (false, eval e X.env) :: starEach [] X.env := by rfl) : EJ X W .s (.Call (.Name "abs" p) [e] [] pos) (eD absP fA) := e_callB call_abs absP_exc (s_abs _) hg mg (by decide +kernel) ha (he := he)
theorem e_int1 (mg : X.mg "int" = none) (hg : Gl X "int") (ha : AJ X W .t [e] fA) (he : starEach [e] X.env = (false, eval e X.env) :: starEach [] X.env := by rfl) : EJ X W .s (.Call (.Name "int" p) [e] [] pos) (eD intP1 fA) := e_callTy call_int1 intP1_exc (s_int1 _) hg mg (by decide +kernel) ha (he := he)
theorem e_list (mg : X.mg "list" = none) (hg : Gl X "list") (ha : AJ X W .t [e] fA) (he : starEach [e] X.env = (false, eval e X.env) :: starEach [] X.env := by rfl) : EJ X W .f (.Call (.Name "list" p) [e] [] pos) (eD listP fA) := e_callTy call_list_of listP_exc (s_list _) hg mg (by decide +kernel) ha (he := he)
theorem e_all (hc : X.calm = true) (mg : X.mg "all" = none) (hg : Gl X "all") (ha : AJ X W .t [e] fA) (he : starEach [e] X.env = (false, eval e X.env) :: starEach [] X.env := by rfl) : EJ X W .s (.Call (.Name "all" p) [e] [] pos) (eD allP fA) := e_callB (cr_all hc) allP_exc (s_all _) hg mg (by decide +kernel) ha (he := he)
theorem e_divmod {e' : Expr} (mg : X.mg "divmod" = none) (hg : Gl X "divmod") (ha : AJ X W .t [e, e'] fA) (he : starEach [e, e'] X.env = (false, eval e X.env) :: starEach [e'] X.env := by rfl) (hpl : (backTo pos (starEach [e'] X.env)).any (·.1) = false := by rfl) : EJ X W .s (.Call (.Name "divmod" p) [e, e'] [] pos) (eD divmodP fA) := e_callB call_divmodW divmodP_exc (s_divmod _) hg mg (by decide +kernel) ha (he := he) (hpl := hpl)
def tyN : PV → String
  | .non => "NoneType" | .bl _ => "bool" | .int _ => "int" | .str _ => "str" | .tup _ => "tuple" | .lst _ => "list" | .frz _ => "list" | .dct => "dict"
def isiP (n : String) (p : PV) : R PV := match kitB (tyN p) n with
  | some b => .ok (.bl b)
  | none => .stuck
theorem rt_ty {K : PySem.W.Frag} {H H2 : Hp} {O0 : Addr → Prop} {σ : St} {ρ : Rho} {x : V} {p : PV} (r : RepM K O0 σ ρ .t H H2 x p) : TyX K H2 x (.type (tyN p)) := by
  rcases r with r | ⟨a, vs, ps, rfl, rfl, e3, e4⟩
  · cases r with
    | non => exact .base .non
    | bl b => exact .base (.bl b)
    | int i => exact .base (.int i)
    | str i => exact .base (.str i)
    | lst h _ _ => exact .base (.lst h)
    | tup h _ =>
      rcases h with ⟨h, _⟩ | ⟨o, its, n, h1, h2, _⟩
      · exact .base (.tup h)
      · exact .kTuple h1 h2
    | frz h =>
      rcases h with ⟨⟨o, h⟩, _⟩ | h
      · exact .base (.frz h)
      · rcases h fun _ => none with (h | ⟨_, h⟩) | ⟨o, its, n, h1, h2, _⟩
        · cases h
        · cases h
        · exact .kList h1 h2
    | dct h _ => exact .base (.dK h)
  · exact .base (.lst e3)
theorem e_isi {n : String} {en : Expr} (mg : X.mg "isinstance" = none) (hg : Gl X "isinstance") (ha : EJ X W .t e f) (hn : PE X en (tC (.ty n))) (he : starEach [e, en] X.env = (false, eval e X.env) :: starEach [en] X.env := by rfl) (he2 : starEach [en] X.env = (false, eval en X.env) :: starEach [] X.env := by rfl) (hpl : (backTo pos (starEach [en] X.env)).any (·.1) = false := by rfl) :
    EJ X W .s (.Call (.Name "isinstance" p) [e, en] [] pos) (e1 (isiP n) f) := by
  refine pe_imp (pe_callB call_isi hg mg PyProof.Rows.boot_isinstance (pa_cons ha (pa_cons hn pa_nil he2) he) (by decide) (by decide) he hpl) fun σ H Q ⟨H0, O0, ρ, S, G⟩ => ⟨H0, O0, ρ, S, ?_⟩
  revert G
  unfold e1
  cases f ρ with
  | stuck => exact False.elim
  | exc c => exact fun G => G
  | ok q =>
    intro G x H1 s1 r1
    rw [R.bind_ok] at G
    unfold isiP at G
    split at G
    · rename_i b hb
      exact ⟨x, .ty n, _, _, b, rfl, .ty n, rt_ty r1, kit_ty hb, G _ _ s1 (.bl b)⟩
    · exact G.elim
end
end PL
set_option Elab.async false
set_option linter.all false
set_option maxRecDepth 100000
set_option autoImplicit false
namespace PL
open PySem PySem.Spec L2
open PyProof.Rows hiding St
def Kept (O : Addr → Prop) (H : Hp) (O' : Addr → Prop) (H' : Hp) : Prop := ∀ a o, H a = some o → ¬ O a → H' a = some o ∧ ¬ O' a
theorem Kept.refl (O : Addr → Prop) (H : Hp) : Kept O H O H := fun _ _ h n => ⟨h, n⟩
theorem Kept.trans {O O1 O2 : Addr → Prop} {H H1 H2 : Hp} (a : Kept O H O1 H1) (b : Kept O1 H1 O2 H2) : Kept O H O2 H2 := fun c o h n => b c o (a c o h n).1 (a c o h n).2
theorem Kept.same {O : Addr → Prop} {H H' : Hp} (s : Same H H') : Kept O H O H' := fun a o h n => ⟨s a o h, n⟩
structure ItOk (K : PySem.W.Frag) (J : It) (items : List PV) (O1 : Addr → Prop) (H1 : Hp) : Prop where
  go : ∀ i H O, Kept O1 H1 O H → i < items.length → J.go i H
  stop : ∀ i H O, Kept O1 H1 O H → items.length ≤ i → J.stop i H
  yld : ∀ i H O x H' p, Kept O1 H1 O H → (∀ a, O a → H a ≠ none) → items[i]? = some p → J.yld i H x H' → Same H H' ∧ Rep K H' O x p
def GotI (K : PySem.W.Frag) (mg : Str → Option Value) (W : WX) (O0 : Addr → Prop) (σ : St) (ρ : Rho) (H : Hp) (Q : It → Hp → Prop) : R (List PV) → Prop
  | .ok items => ∀ J H', Same H H' → ItOk K J items (OO O0 σ ρ) H' → Q J H'
  | .exc c => ∀ C H', Same H H' → mg c = some (.ref C) → W (.ref C) none σ H'
  | .stuck => False
def tI (K : PySem.W.Frag) (mg : Str → Option Value) (W : WX) (f : Rho → R (List PV)) : TI := fun σ H Q =>
  ∃ H0 O0 ρ, StR K H0 O0 H σ ρ ∧ GotI K mg W O0 σ ρ H Q (f ρ)
abbrev IJ (X : Cx) (W : WX) (tg it : Expr) (f : Rho → R (List PV)) : Prop := PI X tg it (tI X.K X.mg W f)
section
variable {X : Cx} {W : WX} {e e' e'' tg : Expr} {pos p : Pos} {f : Rho → R PV} {fA : Rho → R (List PV)} {K : PySem.W.Frag}
theorem pi_imp {t t' : TI} (h : PI X tg e t) (q : ∀ σ H Q, t' σ H Q → t σ H Q) : PI X tg e t' := ⟨fun pins s σ H Q I hw => h.run pins s σ H Q I (q σ H Q hw)⟩
/-- the items of a list, a tuple -/
def asL : PV → R (List PV)
  | .lst l | .frz l => .ok l
  | _ => .stuck
def asS : PV → R (List PV)
  | .lst l | .frz l | .tup l => .ok l
  | _ => .stuck
def iRv (f : Rho → R PV) : Rho → R (List PV) := fun ρ => (f ρ).bind fun p => (asS p).bind fun l => .ok l.reverse
theorem kept_reps {H H1 : Hp} {O O1 : Addr → Prop} (k : Kept O1 H1 O H) {v : V} {p : PV} (r : Rep K H1 O1 v p) : Rep K H O v p := r.mono k
theorem lst_it {H1 : Hp} {O1 : Addr → Prop} {a : Addr} {l : List PV} (r : Rep K H1 O1 (.ref a) (.lst l)) : ItOk K (Itl K a) l O1 H1 ∧ ∃ xs, SqL K H1 a xs := by
  cases r with
  | @lst _ vs _ h n r =>
    refine ⟨⟨fun i H O k hi => ?_, fun i H O k hi => ⟨vs, .inl (.inl (k _ _ h n).1), by rw [r.length]; exact hi⟩, fun i H O x H' p k _ hp hy => ?_⟩, vs, .inl (.inl h)⟩
    · obtain ⟨v, hv, _⟩ := r.get (List.getElem?_eq_getElem hi)
      exact ⟨vs, v, .inl (.inl (k _ _ h n).1), hv⟩
    · obtain ⟨rfl, hx⟩ := hy
      obtain ⟨q, hq, rq⟩ := r.get' (hx vs (.inl (.inl (k _ _ h n).1)))
      rw [hp] at hq; cases hq
      exact ⟨Same.refl _, kept_reps k rq⟩
theorem frz_it {H1 : Hp} {O1 : Addr → Prop} {a : Addr} {l : List PV} (r : Rep K H1 O1 (.ref a) (.frz l)) : ItOk K (Itl K a) l O1 H1 ∧ ∃ xs, SqL K H1 a xs := by
  generalize hl : PV.frz l = q at r
  cases r with
  | @frz _ ns h =>
    cases hl
    have sq : ∀ H O, Kept O1 H1 O H → SqL K H a (ns.map V.int) := fun H O k => by
      rcases h with ⟨⟨o, h⟩, n⟩ | h
      · exact .inl (.inr ⟨o, (k _ _ h n).1⟩)
      · exact h _
    refine ⟨⟨fun i H O k hi => ?_, fun i H O k hi => ⟨_, sq H O k, by simpa using hi⟩, fun i H O x H' p k _ hp hy => ?_⟩, _, sq _ _ (Kept.refl _ _)⟩
    · rw [List.length_map] at hi
      exact ⟨_, .int ns[i], sq H O k, by rw [List.getElem?_map, List.getElem?_eq_getElem hi]; rfl⟩
    · obtain ⟨rfl, hx⟩ := hy
      have hx := hx _ (sq _ O k)
      rw [List.getElem?_map] at hp hx
      cases hn : ns[i]? with
      | none => rw [hn] at hp; cases hp
      | some n =>
        rw [hn] at hp hx
        cases hp; cases hx
        exact ⟨Same.refl _, .int n⟩
  | _ => cases hl
theorem tup_it {H1 : Hp} {O1 : Addr → Prop} {a : Addr} {l : List PV} (r : Rep K H1 O1 (.ref a) (.tup l)) : ItOk K (Itt K a) l O1 H1 ∧ ∃ xs, SqT K H1 a xs := by
  cases r with
  | @tup _ vs _ h r =>
    have sq : ∀ H O, Kept O1 H1 O H → SqT K H a vs := fun H O k => by
      rcases h with ⟨h, n⟩ | h
      · exact .inl (.inl (k _ _ h n).1)
      · exact .inr h
    refine ⟨⟨fun i H O k hi => ?_, fun i H O k hi => ⟨vs, sq H O k, by rw [r.length]; exact hi⟩, fun i H O x H' p k _ hp hy => ?_⟩, vs, sq _ _ (Kept.refl _ _)⟩
    · obtain ⟨v, hv, _⟩ := r.get (List.getElem?_eq_getElem hi)
      exact ⟨vs, v, sq H O k, hv⟩
    · obtain ⟨rfl, hx⟩ := hy
      obtain ⟨q, hq, rq⟩ := r.get' (hx vs (sq _ O k))
      rw [hp] at hq; cases hq
      exact ⟨Same.refl _, kept_reps k rq⟩
/-- a PI by either of two readings -/
theorem pi_or {w1 w2 : TI} (h1 : PI X tg e w1) (h2 : PI X tg e w2) : PI X tg e (fun σ H R => w1 σ H R ∨ w2 σ H R) := ⟨fun pins s σ H R I hw => by
  rcases hw with hw | hw
  · exact h1.run pins s σ H R I hw
  · exact h2.run pins s σ H R I hw⟩
def iS (f : Rho → R PV) : Rho → R (List PV) := fun ρ => (f ρ).bind asS
theorem ref_of {H1 : Hp} {O1 : Addr → Prop} {v : V} {p : PV} (r : Rep K H1 O1 v p) (h : (∃ l, p = .lst l) ∨ (∃ l, p = .frz l) ∨ ∃ l, p = .tup l) : ∃ a, v = .ref a := by
  rcases h with ⟨l, rfl⟩ | ⟨l, rfl⟩ | ⟨l, rfl⟩
  · cases r; exact ⟨_, rfl⟩
  · generalize hl : PV.frz l = q at r
    cases r with
    | frz h => exact ⟨_, rfl⟩
    | _ => cases hl
  · cases r; exact ⟨_, rfl⟩
/-- a list or a tuple, walked -/
theorem i_seq (he : EJ X W .s e f) : IJ X W tg e (iS f) := by
  refine pi_imp (pi_or (L2.pi_list he) (L2.pi_tup he)) fun σ H Q ⟨H0, O0, ρ, S, G⟩ => ?_
  revert G
  unfold iS
  cases hf : f ρ with
  | stuck => exact False.elim
  | exc c => exact fun G => .inl ⟨H0, O0, ρ, S, by rw [hf]; exact G⟩
  | ok p =>
    cases p with
    | lst l =>
      intro G
      refine .inl ⟨H0, O0, ρ, S, ?_⟩
      rw [hf]
      intro v H1 s1 r1
      obtain ⟨a, rfl⟩ := ref_of r1 (.inl ⟨l, rfl⟩)
      obtain ⟨h1, h2⟩ := lst_it r1
      exact ⟨a, rfl, h2, G _ _ s1 h1⟩
    | frz l =>
      intro G
      refine .inl ⟨H0, O0, ρ, S, ?_⟩
      rw [hf]
      intro v H1 s1 r1
      obtain ⟨a, rfl⟩ := ref_of r1 (.inr (.inl ⟨l, rfl⟩))
      obtain ⟨h1, h2⟩ := frz_it r1
      exact ⟨a, rfl, h2, G _ _ s1 h1⟩
    | tup l =>
      intro G
      refine .inr ⟨H0, O0, ρ, S, ?_⟩
      rw [hf]
      intro v H1 s1 r1
      obtain ⟨a, rfl⟩ := ref_of r1 (.inr (.inr ⟨l, rfl⟩))
      obtain ⟨h1, h2⟩ := tup_it r1
      exact ⟨a, rfl, h2, G _ _ s1 h1⟩
    | _ => exact False.elim
/-- lo, lo + 1, .. -/
def rngL (lo : Int) (n : Nat) : List PV := (List.range n).map fun (i : Nat) => PV.int (lo + i)
theorem rngL_len (lo : Int) (n : Nat) : (rngL lo n).length = n := by unfold rngL; rw [List.length_map, List.length_range]
theorem rng_it (lo : Int) (n : Nat) (O1 : Addr → Prop) (H1 : Hp) : ItOk K (Itr lo n) (rngL lo n) O1 H1 := by
  refine ⟨fun i H O k hi => by rw [rngL_len] at hi; exact hi, fun i H O k hi => by rw [rngL_len] at hi; exact hi, fun i H O x H' p k _ hp hy => ?_⟩
  obtain ⟨rfl, rfl⟩ := hy
  unfold rngL at hp
  rw [List.getElem?_map] at hp
  cases hn : (List.range n)[i]? with
  | none => rw [hn] at hp; cases hp
  | some j =>
    rw [hn] at hp
    obtain ⟨h1, h2⟩ := List.getElem?_eq_some_iff.mp hn
    rw [List.getElem_range] at h2
    cases hp
    rw [h2]
    exact ⟨Same.refl _, .int _⟩
def inR (i : Int) : Bool := decide (-(2 ^ 62) ≤ i) && decide (i < 2 ^ 62)
theorem inR_iff {i : Int} : inR i = true ↔ -(2 ^ 62) ≤ i ∧ i < 2 ^ 62 := by unfold inR; rw [Bool.and_eq_true, decide_eq_true_eq, decide_eq_true_eq]
def rng1 : List PV → R (List PV)
  | [.int j] => if inR j = true then .ok (rngL 0 j.toNat) else .stuck
  | _ => .stuck
def rng2 : List PV → R (List PV)
  | [.int i, .int j] => .ok (rngL i (j - i).toNat)
  | _ => .stuck
def iR (g : List PV → R (List PV)) (f : Rho → R (List PV)) : Rho → R (List PV) := fun ρ => (f ρ).bind g
theorem i_rng1 (mg : X.mg "range" = none) (hg : Gl X "range") (ha : AJ X W .t [e] fA) (hs : starEach [e] X.env = [(false, eval e X.env)] := by rfl) : IJ X W tg (.Call (.Name "range" p) [e] [] pos) (iR rng1 fA) := by
  refine pi_imp (pi_range1 hg mg ha hs) fun σ H Q ⟨H0, O0, ρ, S, G⟩ => ⟨H0, O0, ρ, S, ?_⟩
  revert G
  unfold iR
  cases fA ρ with
  | stuck => exact False.elim
  | exc c => exact fun G => G
  | ok ps =>
    intro G vs H1 s1 r1
    rw [R.bind_ok] at G
    unfold rng1 at G
    split at G
    · split at G
      · rename_i hz
        obtain ⟨v, rfl, r2⟩ := pr1 r1
        rw [rt_int r2]
        obtain ⟨z1, z2⟩ := inR_iff.mp hz
        exact ⟨_, rfl, z1, z2, G _ _ s1 (rng_it _ _ _ _)⟩
      · exact G.elim
    · exact G.elim
/-- a range of any numbers, walked by the iterator for great ones -/
theorem turn_long {P : Program} {w : World} {K : PySem.W.Frag} {tg : Expr} (z : Addr) (lo : Int) (n : Nat) : Turn P w K tg (Itr lo n) [z] z (fun j g => IsLongIter g z (lo + (j : Nat) * 1) ((n : Int) - (j : Nat)) 1) := by
  have here : z ∈ [z] := List.mem_singleton.mpr rfl
  refine ⟨here, fun j g hg b hb => ?_, fun j g g' hg k => k z here _ hg, ?_, ?_, fun _ _ _ _ _ hg q => wpAny_pyIter_longiter hg q⟩
  · cases List.mem_singleton.mp hb
    exact ⟨_, hg, fun v e => nomatch e⟩
  · rintro X rfl rfl rfl calm j pins u σ H E inv fresh hg lt
    have fr := fresh z here
    refine (Walks.longrange (prog := X.prog) (w := X.w) (inv.ok.hd calm) z lo 1 n).item j u _ _ lt hg fun v g tk hv hg' same => ?_
    obtain ⟨t, rfl⟩ := hv
    have inv' : Inv X pins σ H { u with heap := g, toks := tk } := inv.turned (fun b o hb e => same b o (fun hm => hb (List.mem_singleton.mp hm)) e) fr.1 fr.2.1 fr.2.2.2.1 fr.2.2.2.2.1 fr.2.2.2.2.2
    exact ⟨_, rfl, go_of (s := { u with heap := g, toks := tk }) (n := "longrange_iterator") hg' rfl rfl (by decide) ⟨.int (lo + j), H, inv', ⟨t, by rw [Int.mul_one]⟩, ⟨rfl, rfl⟩, hg', fun b hb => (fresh b hb).1⟩⟩
  · rintro X rfl rfl rfl calm j pins u σ H E inv fresh hg le
    have fr := fresh z here
    have le : n ≤ j := le
    exact wpAny_pyNext_long_end (inv.ok.hd calm) hg (by omega) fun g eb => ⟨rfl, inv.turned (t' := u.toks) (fun b o hb e => eb b o hb e) fr.1 fr.2.1 fr.2.2.2.1 fr.2.2.2.2.1 fr.2.2.2.2.2⟩
theorem range_any {pins : List (Addr × Obj)} {σ : St} {H : Hp} {u : Shared} {R : It → Hp → Prop} {E : Value → Shared → Prop} {i j : Int} {t1 t2 t3 : Tok} {tk : Nat} (inv : Inv X pins σ H u) (q : R (Itr i (j - i).toNat) H) :
    wpAny (model X.prog X.w) X.A (pyIter (.ref u.heap.objs.size)) (PIE X pins σ tg R) E { u with heap := u.heap.push { cls := .type "range", data := .fields #[.int i t1, .int j t2, .int 1 t3] }, toks := tk } := by
  have inv' : Inv X pins σ H { u with heap := u.heap.push { cls := .type "range", data := .fields #[.int i t1, .int j t2, .int 1 t3] }, toks := tk } := inv.kept fun b o e => Heap.get?_push_of_some _ e
  have many : (((j - i).toNat : Nat) : Int) - ((0 : Nat) : Int) = Builtin.Range.rangeSize i j 1 := by rw [rangeSize_one]; split <;> omega
  have first : i + ((0 : Nat) : Int) * 1 = i := by simp
  cases sm : Builtin.Range.small i j 1 with
  | true =>
    refine wpAny_pyIter_range (IsRange.new ..) sm (pi_one inv' _ (turn_range _ i (j - i).toNat) ?_ q)
    show IsRangeIter _ _ (i + ((0 : Nat) : Int) * 1) ((((j - i).toNat : Nat) : Int) - ((0 : Nat) : Int)) 1
    rw [first, many]; exact Heap.get?_push_size _ rfl
  | false =>
    refine wpAny_pyIter_longrange (IsRange.new ..) sm (pi_one inv' _ (turn_long _ i (j - i).toNat) ?_ q)
    show IsLongIter _ _ (i + ((0 : Nat) : Int) * 1) ((((j - i).toNat : Nat) : Int) - ((0 : Nat) : Int)) 1
    rw [first, many]; exact Heap.get?_push_size _ rfl
def iRngA (ta : TA) : TI := fun σ H R => ta σ H fun vs H' => ∃ i j : Int, vs = [.int i, .int j] ∧ R (Itr i (j - i).toNat) H'
theorem pi_rangeA {a b : Expr} {ta : TA} {p pos : Pos} (hg : Gl X "range") (hm : X.mg "range" = none) (ha : PA X [a, b] ta) (h1 : starEach [a, b] X.env = [(false, eval a X.env), (false, eval b X.env)] := by rfl) (h2 : starEach [b] X.env = [(false, eval b X.env)] := by rfl) :
    PI X tg (.Call (.Name "range" p) [a, b] [] pos) (iRngA ta) := by
  refine ⟨fun pins u σ H R inv hw => Call_ (ld_blt inv hg hm boot_range (PyProof.Rows.callWith_type1 (thn (ha.run pos pins u σ H _ inv hw) ?_) (by rw [h1, h2]) (by rw [h2]; rfl)))⟩
  rintro us u1 ⟨vs, H1, inv1, rel, i, j, rfl, q⟩
  cases rel with
  | cons ri rel => cases rel with
    | cons rj rel =>
      cases rel
      obtain ⟨t1, rfl⟩ := ri
      obtain ⟨t2, rfl⟩ := rj
      exact call_range_2 (range_any inv1 q)
theorem i_rng2 (mg : X.mg "range" = none) (hg : Gl X "range") (ha : AJ X W .t [e, e'] fA) (hs : starEach [e, e'] X.env = [(false, eval e X.env), (false, eval e' X.env)] := by rfl) (hs2 : starEach [e'] X.env = [(false, eval e' X.env)] := by rfl) : IJ X W tg (.Call (.Name "range" p) [e, e'] [] pos) (iR rng2 fA) := by
  refine pi_imp (pi_rangeA hg mg ha hs hs2) fun σ H Q ⟨H0, O0, ρ, S, G⟩ => ⟨H0, O0, ρ, S, ?_⟩
  revert G
  unfold iR
  cases fA ρ with
  | stuck => exact False.elim
  | exc c => exact fun G => G
  | ok ps =>
    intro G vs H1 s1 r1
    rw [R.bind_ok] at G
    unfold rng2 at G
    split at G
    · obtain ⟨v, w, rfl, r2, r3⟩ := pr2 r1
      rw [rt_int r2, rt_int r3]
      exact ⟨_, _, rfl, G _ _ s1 (rng_it _ _ _ _)⟩
    · exact G.elim
/-- range(i, j, -1) -/
def rngDn (lo : Int) (n : Nat) : List PV := (List.range n).map fun (i : Nat) => PV.int (lo - i)
theorem rngDn_len (lo : Int) (n : Nat) : (rngDn lo n).length = n := by unfold rngDn; rw [List.length_map, List.length_range]
theorem rngDn_it (lo : Int) (n : Nat) (O1 : Addr → Prop) (H1 : Hp) : ItOk K (Itc lo (-1) n) (rngDn lo n) O1 H1 := by
  refine ⟨fun i H O k hi => by rw [rngDn_len] at hi; exact hi, fun i H O k hi => by rw [rngDn_len] at hi; exact hi, fun i H O x H' p k _ hp hy => ?_⟩
  obtain ⟨rfl, rfl⟩ := hy
  unfold rngDn at hp
  rw [List.getElem?_map] at hp
  cases hn : (List.range n)[i]? with
  | none => rw [hn] at hp; cases hp
  | some j =>
    rw [hn] at hp
    obtain ⟨h1, h2⟩ := List.getElem?_eq_some_iff.mp hn
    rw [List.getElem_range] at h2
    cases hp
    rw [h2, show lo + (j : Int) * -1 = lo - j by omega]
    exact ⟨Same.refl _, .int _⟩
def rng3 : List PV → R (List PV)
  | [.int i, .int j, .int c] => if (inR i && inR j && decide (c = -1)) = true then .ok (rngDn i (i - j).toNat) else .stuck
  | _ => .stuck
theorem i_rng3 (mg : X.mg "range" = none) (hg : Gl X "range") (ha : AJ X W .t [e, e', e''] fA) (hs : starEach [e, e', e''] X.env = (false, eval e X.env) :: starEach [e', e''] X.env := by rfl) (hpl : (backTo pos (starEach [e', e''] X.env)).any (·.1) = false := by rfl) : IJ X W tg (.Call (.Name "range" p) [e, e', e''] [] pos) (iR rng3 fA) := by
  refine pi_imp (pi_range3 hg mg ha hs hpl) fun σ H Q ⟨H0, O0, ρ, S, G⟩ => ⟨H0, O0, ρ, S, ?_⟩
  revert G
  unfold iR
  cases fA ρ with
  | stuck => exact False.elim
  | exc c => exact fun G => G
  | ok ps =>
    intro G vs H1 s1 r1
    rw [R.bind_ok] at G
    unfold rng3 at G
    split at G
    · split at G
      · rename_i hz
        rw [Bool.and_eq_true, Bool.and_eq_true, decide_eq_true_eq] at hz
        obtain ⟨⟨h1, h2⟩, rfl⟩ := hz
        obtain ⟨z1, z2⟩ := inR_iff.mp h1
        obtain ⟨z3, z4⟩ := inR_iff.mp h2
        cases r1 with
        | cons ra r1 => cases r1 with
          | cons rb r1 => cases r1 with
            | cons rc r1 =>
              cases r1
              rw [rt_int ra, rt_int rb, rt_int rc]
              exact ⟨_, _, _, _, rfl, RgC.neg z1 z2 z3 z4, G _ _ s1 (rngDn_it _ _ _ _)⟩
      · exact G.elim
    · exact G.elim
/-- enumerate(list) -/
def enumL : Nat → List PV → List PV
  | _, [] => []
  | n, p :: ps => .tup [.int (n : Nat), p] :: enumL (n + 1) ps
theorem enumL_len : ∀ (n : Nat) (l : List PV), (enumL n l).length = l.length
  | _, [] => rfl
  | n, p :: ps => by unfold enumL; rw [List.length_cons, List.length_cons, enumL_len]
theorem enumL_get : ∀ (n : Nat) (l : List PV) (i : Nat), (enumL n l)[i]? = (l[i]?).map fun p => .tup [.int ((n + i : Nat) : Int), p]
  | _, [], _ => rfl
  | n, p :: ps, 0 => rfl
  | n, p :: ps, i + 1 => by
    unfold enumL
    rw [List.getElem?_cons_succ, List.getElem?_cons_succ, enumL_get (n + 1) ps i]
    rw [show n + 1 + i = n + (i + 1) by omega]
def iEn (f : Rho → R PV) : Rho → R (List PV) := fun ρ => (f ρ).bind fun p => (match p with
  | .lst l => .ok (enumL 0 l)
  | _ => .stuck)
theorem i_enum {elts : List Expr} {kk : Nat} {tpos : Pos} (mg : X.mg "enumerate" = none) (hg : Gl X "enumerate") (he : EJ X W .s e f) (hs1 : starEach [e] X.env = (false, eval e X.env) :: starEach [] X.env := by rfl) (hs : starEach [e] X.env = [(false, eval e X.env)] := by rfl) : IJ X W (.Tuple elts kk tpos) (.Call (.Name "enumerate" p) [e] [] pos) (iEn f) := by
  refine pi_imp (pi_enum hg mg (pa_cons he pa_nil hs1) hs) fun σ H Q ⟨H0, O0, ρ, S, G⟩ => ⟨H0, O0, ρ, S, ?_⟩
  revert G
  unfold iEn
  cases hf : f ρ with
  | stuck => exact False.elim
  | exc c => exact fun G => G
  | ok p =>
    cases p with
    | lst l =>
      intro G v H1 s1 r1
      cases (show Rep X.K H1 (OO O0 σ ρ) v (.lst l) from r1) with
      | @lst a vs _ h n r =>
        refine ⟨a, vs, rfl, .inl (.inl h), G _ _ s1 ⟨fun i H O k hi => ?_, fun i H O k hi => ⟨vs, .inl (.inl (k _ _ h n).1), by rw [enumL_len] at hi; rw [r.length]; exact hi⟩, fun i H O x H' p k al hp hy => ?_⟩⟩
        · rw [enumL_len] at hi
          obtain ⟨v, hv, _⟩ := r.get (List.getElem?_eq_getElem hi)
          exact ⟨vs, v, .inl (.inl (k _ _ h n).1), hv⟩
        · obtain ⟨T, y, rfl, hT, rfl, hx⟩ := hy
          obtain ⟨q, hq, rq⟩ := r.get' (hx vs (.inl (.inl (k _ _ h n).1)))
          rw [enumL_get, hq] at hp
          cases hp
          rw [Nat.zero_add]
          exact ⟨same_new hT, .tup (.inl ⟨upd_same, fun z => al T z hT⟩) (.cons (.int _) (.cons ((kept_reps k rq).same (same_new hT)) .nil))⟩
    | _ => exact False.elim
end
def GotG (K : PySem.W.Frag) (H0 : Hp) (O0 : Addr → Prop) (H : Hp) (ts : List Nat) (σ : St) (ρ : Rho) (Q : St → Hp → Prop) : Option Rho → Prop
  | some ρ' => ∀ σ', StR K H0 O0 H σ' ρ' → (∀ a, OO O0 σ' ρ' a → OO O0 σ ρ a) → σ'.length = σ.length → (∀ (i : Nat), i ∉ ts → σ'[i]? = σ[i]? ∧ ρ'[i]? = ρ[i]?) → Q σ' H
  | none => False
def tG (K : PySem.W.Frag) (ts : List Nat) (h : PV → Rho → Option Rho) : TG := fun v σ H Q => ∃ H0 O0 ρ p, StR K H0 O0 H σ ρ ∧ Rep K H (OO O0 σ ρ) v p ∧ GotG K H0 O0 H ts σ ρ Q (h p ρ)
abbrev GJ (X : Cx) (tg : Expr) (ts : List Nat) (h : PV → Rho → Option Rho) : Prop := PG X tg (tG X.K ts h)
theorem pg_imp {X : Cx} {tg : Expr} {t t' : TG} (h : PG X tg t) (q : ∀ v σ H Q, t' v σ H Q → t v σ H Q) : PG X tg t' := ⟨fun pins s σ H v u Q I r hw => h.run pins s σ H v u Q I r (q v σ H Q hw)⟩
theorem pgs_imp {X : Cx} {tg : List Expr} {t t' : TGs} (h : PGs X tg t) (q : ∀ v σ H Q, t' v σ H Q → t v σ H Q) : PGs X tg t' := ⟨fun pins s σ H v u Q I r hw => h.run pins s σ H v u Q I r (q v σ H Q hw)⟩
def gN (i : Nat) : PV → Rho → Option Rho := fun p ρ => some (ρ.set i (.val p))
theorem g_name {X : Cx} {tg : Expr} {i : Nat} (h : PG X tg (gName i)) : GJ X tg [i] (gN i) := by
  refine pg_imp h fun v σ H Q ⟨H0, O0, ρ, p, S, r, G⟩ => ?_
  exact G _ (S.set (s := .val p) (fun _ z => nomatch z) (fun q z => by cases z; exact ⟨v, rfl, r⟩)) (fun a z => OO.set_val (s := .val p) (fun _ z => nomatch z) z) (List.length_set ..) fun j hj => have n : i ≠ j := fun e => hj (by rw [e]; exact List.mem_cons_self); ⟨List.getElem?_set_ne n, List.getElem?_set_ne n⟩
/-- several targets -/
def tGs (K : PySem.W.Frag) (ts : List Nat) (h : List PV → Rho → Option Rho) : TGs := fun vs σ H Q => ∃ H0 O0 ρ ps, StR K H0 O0 H σ ρ ∧ Reps K H (OO O0 σ ρ) vs ps ∧ GotG K H0 O0 H ts σ ρ Q (h ps ρ)
abbrev GJs (X : Cx) (tg : List Expr) (ts : List Nat) (h : List PV → Rho → Option Rho) : Prop := PGs X tg (tGs X.K ts h)
def gsNil : List PV → Rho → Option Rho
  | [], ρ => some ρ
  | _, _ => none
def gsCons (g : PV → Rho → Option Rho) (h : List PV → Rho → Option Rho) : List PV → Rho → Option Rho
  | p :: ps, ρ => (g p ρ).bind (h ps)
  | [], _ => none
section
variable {X : Cx} {e : Expr} {es : List Expr} {g : PV → Rho → Option Rho} {h : List PV → Rho → Option Rho} {pos : Pos} {ts us : List Nat}
theorem gs_nil : GJs X [] [] gsNil := by
  refine pgs_imp pgs_nil fun vs σ H Q ⟨H0, O0, ρ, ps, S, r, G⟩ => ?_
  cases ps with
  | nil => cases r; exact ⟨rfl, G σ S (fun _ z => z) rfl fun _ _ => ⟨rfl, rfl⟩⟩
  | cons p ps => exact G.elim
theorem gs_cons (h1 : GJ X e ts g) (h2 : GJs X es us h) (hs : (assignEach (e :: es) X.env).map (·.2) = assign e X.env :: (assignEach es X.env).map (·.2) := by rfl) : GJs X (e :: es) (ts ++ us) (gsCons g h) := by
  refine pgs_imp (pgs_cons h1 h2 hs) fun vs σ H Q ⟨H0, O0, ρ, ps, S, r, G⟩ => ?_
  cases r with
  | nil => exact G.elim
  | @cons v vs p ps r1 r2 =>
    refine ⟨v, vs, rfl, H0, O0, ρ, p, S, r1, ?_⟩
    have G' : GotG X.K H0 O0 H (ts ++ us) σ ρ Q ((g p ρ).bind (h ps)) := G
    revert G'
    cases g p ρ with
    | none => exact False.elim
    | some ρ1 =>
      intro G' σ1 S1 l1 e1 k1
      exact ⟨H0, O0, ρ1, ps, S1, r2.less l1, by
        revert G'
        rw [Option.bind_some]
        cases h ps ρ1 with
        | none => exact fun G => G
        | some ρ2 => exact fun G' σ2 S2 l2 e2 k2 => G' σ2 S2 (fun a z => l1 a (l2 a z)) (e2.trans e1) fun i hi => have a := k2 i fun z => hi (List.mem_append_right _ z); have b := k1 i fun z => hi (List.mem_append_left _ z); ⟨a.1.trans b.1, a.2.trans b.2⟩⟩
theorem draw_l {prog : Program} {w : World} {A : Around} {E : Value → Shared → Prop} {it l : Addr} {xs : Array Value} (ne : l ≠ it) : ∀ (k j : Nat) (u : Shared) (R : List Value → Shared → Prop), u.heap.IsListIter it l j → u.heap.IsList l xs → j + k ≤ xs.size →
    (∀ g, g.IsListIter it l (j + k) → Heap.SameBut it u.heap g → R ((xs.toList.drop j).take k) { u with heap := g }) → wpAny (model prog w) A (draw (.ref it) k) R E u
  | 0, j, u, R, _, _, _, q => wpAny_pure (by simpa using q u.heap (by simpa) (Heap.SameBut.refl ..))
  | k + 1, j, u, R, hi, hl, hs, q => by
    have lt : j < xs.size := by omega
    show wpAny (model prog w) A (pyNext (.ref it) >>= _) R E u
    refine wpAny_bind (wpAny_pyNext_list_item hi hl (x := xs[j]) (by simp [lt]) fun g1 i1 b1 => ?_)
    refine wpAny_bind (wpAny_holding (draw_l ne k (j + 1) _ _ i1 (hl.extBut b1.extBut ne) (by omega) fun g2 i2 b2 => wpAny_pure ?_))
    have z := q g2 (by rw [show j + (k + 1) = j + 1 + k by omega]; exact i2) (b1.trans b2)
    rw [show xs.toList.drop j = xs[j] :: xs.toList.drop (j + 1) by simp [List.drop_eq_getElem_cons, lt], List.take_succ_cons] at z
    exact z
theorem unp_l {prog : Program} {w : World} {A : Around} {E : Value → Shared → Prop} {u : Shared} {l : Addr} {xs : Array Value} {R : List Value → Shared → Prop} (hh : A.handled = none) (hl : u.heap.IsList l xs)
    (q : ∀ g, Heap.ExtBut u.heap.objs.size u.heap g → R xs.toList { u with heap := g }) : wpAny (model prog w) A (unpackItems (.ref l) xs.size none) R E u := by
  have ne : l ≠ u.heap.objs.size := by obtain ⟨o, ho, _⟩ := hl; exact Nat.ne_of_lt (Heap.lt_size ho)
  unfold unpackItems
  refine wpAny_bind ?_
  unfold notIterableAtAll
  refine wpAny_bind (wpAny_specialOf hl.typeIs slot_list_iter.lookup (wpAny_pure ?_))
  simp only [Bool.false_eq_true, if_false]
  refine wpAny_bind (wpAny_holding (wpAny_pyIter_list hl ?_))
  have h1 := hl.push { cls := .type "list_iterator", data := .fields #[.ref l, .int 0 0] }
  refine wpAny_bind (wpAny_holding (draw_l ne xs.size 0 _ _ ⟨_, Heap.get?_push_size _ rfl, rfl, rfl⟩ h1 (by omega) fun g1 i1 b1 => ?_))
  rw [show List.take xs.size (List.drop 0 xs.toList) = xs.toList by rw [List.drop_zero]; exact List.take_of_length_le (by simp)]
  rw [if_neg (by simp)]
  refine wpAny_bind (wpAny_holding (wpAny_pyNext_list_end hh i1 (h1.extBut b1.extBut ne) (by simp) fun g2 e2 => ?_))
  simp only [Option.isSome_none, Bool.false_eq_true, if_false]
  exact wpAny_pure (q g2 fun b o hb e => e2 b o hb (b1.extBut b o hb (Heap.get?_push_of_some _ e)))
def gSq (K : PySem.W.Frag) (n : Nat) (t : TGs) : TG := fun v σ H Q => ∃ a xs, v = .ref a ∧ (SqT K H a xs ∨ SqL K H a xs) ∧ xs.length = n ∧ t xs σ H Q
theorem pg_sq {X : Cx} {es : List Expr} {k n : Nat} {pos : Pos} {t : TGs} (hc : X.calm = true) (h : PGs X es t) (hn : (assignEach es X.env).length = n := by rfl) (hst : (assignEach es X.env).findIdx? (·.1) = none := by rfl) : PG X (.Tuple es k pos) (gSq X.K n t) := by
  refine ⟨fun pins s σ H v u Q I r g => ?_⟩
  obtain ⟨a, xs, e, hq | hq, hl, hw⟩ := g
  · exact (pg_tup hc h hn hst).run pins s σ H v u Q I r ⟨a, xs, e, hq, hl, hw⟩
  · subst e
    cases r
    obtain ⟨its, rv, pl, hz⟩ := I.list hq
    rw [assign_Tuple]
    refine wpAny_bind (wpAny_standAt ?_)
    unfold unpack
    have hsz : (assignEach es X.env).length = its.toArray.size := by simp [hn, ← hl, rv.length]
    rw [hsz, hst]
    refine wpAny_bind (wpAny_holding (unp_l (I.ok.hd hc) pl.isList fun g eb => ?_))
    have J : Inv X pins σ H { s with heap := g } := I.kept (t' := s.toks) fun b o e => eb b o (Nat.ne_of_lt (Heap.lt_size e)) e
    exact h.run pins _ σ H xs _ Q J (by simpa using rv) hw
def gT (h : List PV → Rho → Option Rho) : PV → Rho → Option Rho
  | .tup ps, ρ => h ps ρ
  | .lst ps, ρ => h ps ρ
  | _, _ => none
theorem g_tup {k n : Nat} (hc : X.calm = true) (h1 : GJs X es ts h) (hl : ∀ ps ρ ρ', h ps ρ = some ρ' → ps.length = n) (hn : (assignEach es X.env).length = n := by rfl) (hst : (assignEach es X.env).findIdx? (·.1) = none := by rfl) : GJ X (.Tuple es k pos) ts (gT h) := by
  refine pg_imp (pg_sq hc h1 hn hst) fun v σ H Q ⟨H0, O0, ρ, p, S, r, G⟩ => ?_
  have len : ∀ (ps : List PV), GotG X.K H0 O0 H ts σ ρ Q (h ps ρ) → ps.length = n := fun ps G' => by
    revert G'
    cases hh : h ps ρ with
    | none => exact False.elim
    | some ρ' => exact fun _ => hl ps ρ ρ' hh
  cases p with
  | tup ps =>
    cases r with
    | @tup a vs _ ha r => exact ⟨a, vs, rfl, .inl (sqT_of ha), by rw [r.length]; exact len ps G, H0, O0, ρ, ps, S, r, G⟩
  | lst ps =>
    cases r with
    | @lst a vs _ ha hn r => exact ⟨a, vs, rfl, .inr (.inl (.inl ha)), by rw [r.length]; exact len ps G, H0, O0, ρ, ps, S, r, G⟩
  | _ => exact G.elim
theorem gs_len : ∀ {n : Nat} {g : PV → Rho → Option Rho} {h : List PV → Rho → Option Rho}, (∀ ps ρ ρ', h ps ρ = some ρ' → ps.length = n) → ∀ ps ρ ρ', gsCons g h ps ρ = some ρ' → ps.length = n + 1 := by
  intro n g h hl ps ρ ρ' e
  cases ps with
  | nil => cases e
  | cons p ps =>
    have e' : (g p ρ).bind (h ps) = some ρ' := e
    cases hg : g p ρ with
    | none => rw [hg] at e'; cases e'
    | some ρ1 =>
      rw [hg, Option.bind_some] at e'
      rw [List.length_cons, hl ps ρ1 ρ' e']
theorem gs_len0 : ∀ ps ρ ρ', gsNil ps ρ = some ρ' → ps.length = 0 := by
  intro ps ρ ρ' e
  cases ps with
  | nil => rfl
  | cons p ps => cases e
end
end PL
set_option Elab.async false
set_option linter.all false
set_option maxRecDepth 100000
set_option autoImplicit false
namespace PL
open PySem PySem.Spec L2
open PyProof.Rows hiding St
def wipeR (ρ : Rho) : List Nat → Rho
  | [] => ρ
  | v :: vs => (wipeR ρ vs).set v .un
def notOwn (ρ : Rho) (v : Nat) : Bool := match ρ[v]? with
  | some (.own _) => false
  | _ => true
theorem wipe_get (σ : St) : ∀ (vs : List Nat) (i : Nat), (wipe σ vs)[i]? = if i ∈ vs then (if i < σ.length then some none else none) else σ[i]?
  | [], i => by simp [wipe]
  | v :: vs, i => by
    unfold wipe
    by_cases e : v = i
    · subst e
      rw [if_pos List.mem_cons_self]
      by_cases h : v < σ.length
      · rw [if_pos h, List.getElem?_set_self (by rw [wipe_length]; exact h)]
      · rw [if_neg h, List.getElem?_eq_none (by rw [List.length_set, wipe_length]; omega)]
    · rw [List.getElem?_set_ne e, wipe_get σ vs i]
      have : i ∈ v :: vs ↔ i ∈ vs := by
        rw [List.mem_cons]
        exact ⟨fun z => z.elim (fun z => absurd z.symm e) id, .inr⟩
      simp only [this]
theorem wipe_back {σ σ2 : St} {vs : List Nat} (hl : σ2.length = (wipe σ vs).length) (h : ∀ (i : Nat), i ∉ vs → σ2[i]? = (wipe σ vs)[i]?) : wipe σ2 vs = wipe σ vs := by
  refine List.ext_getElem? fun i => ?_
  rw [wipe_get σ2 vs i]
  by_cases hi : i ∈ vs
  · rw [if_pos hi, hl, wipe_length, wipe_get σ vs i, if_pos hi]
  · rw [if_neg hi, h i hi]
theorem wipe_st {K : PySem.W.Frag} {H0 H : Hp} {O0 : Addr → Prop} {σ : St} {ρ : Rho} (S : StR K H0 O0 H σ ρ) : ∀ vs : List Nat, StR K H0 O0 H (wipe σ vs) (wipeR ρ vs) ∧ ∀ a, OO O0 (wipe σ vs) (wipeR ρ vs) a → OO O0 σ ρ a
  | [] => ⟨S, fun _ z => z⟩
  | v :: vs => by
    obtain ⟨S1, l1⟩ := wipe_st S vs
    exact ⟨S1.set (s := .un) (fun _ z => nomatch z) (fun _ z => nomatch z), fun a z => l1 a (OO.set_val (s := .un) (fun _ z => nomatch z) z)⟩
theorem wipeR_get (ρ : Rho) : ∀ (vs : List Nat) (i : Nat), i ∉ vs → (wipeR ρ vs)[i]? = ρ[i]?
  | [], i, _ => rfl
  | v :: vs, i, h => by
    rw [List.mem_cons, not_or] at h
    unfold wipeR
    rw [List.getElem?_set_ne (Ne.symm h.1), wipeR_get ρ vs i h.2]
theorem wipe_oo {O0 : Addr → Prop} {σ : St} {ρ : Rho} {vs : List Nat} (hn : vs.all (notOwn ρ) = true) {a : Addr} (h : OO O0 σ ρ a) : OO O0 (wipe σ vs) (wipeR ρ vs) a := by
  rcases h with h | ⟨i, ps, h1, h2⟩
  · exact .inl h
  · have hi : i ∉ vs := fun hi => by
      have := List.all_eq_true.mp hn i hi
      unfold notOwn at this
      rw [h1] at this
      cases this
    exact .inr ⟨i, ps, by rw [wipeR_get ρ vs i hi]; exact h1, by rw [wipe_get, if_neg hi]; exact h2⟩
/-- what the turns make of the items -/
def lcGo (tgt : PV → Rho → Option Rho) (test : Rho → R Bool) (elt : Rho → R PV) (ρ : Rho) : List PV → R (List PV)
  | [] => .ok []
  | p :: ps => match tgt p ρ with
    | none => .stuck
    | some ρ1 => match test ρ1 with
      | .ok true => (match elt ρ1 with
        | .ok q => (match lcGo tgt test elt ρ ps with
          | .ok qs => .ok (q :: qs)
          | _ => .stuck)
        | _ => .stuck)
      | .ok false => lcGo tgt test elt ρ ps
      | _ => .stuck
def eLc (vs : List Nat) (it : Rho → R (List PV)) (tgt : PV → Rho → Option Rho) (test : Rho → R Bool) (elt : Rho → R PV) : Rho → R PV := fun ρ =>
  if vs.all (notOwn ρ) = true then (it ρ).bind fun items => if items.length ≤ sizeLine then (match lcGo tgt test elt (wipeR ρ vs) items with
    | .ok qs => .ok (.lst qs)
    | _ => .stuck) else .stuck
  else .stuck
abbrev CJ (X : Cx) (W : WX) (ifs : List Expr) (f : Rho → R Bool) : Prop := PTs X ifs (tT X.K X.mg W f)
def cYes : Rho → R Bool := fun _ => .ok true
abbrev WF : WX := fun _ _ _ _ => False
section
variable {X : Cx} {W : WX} {e tg it : Expr} {pos : Pos} {f g h : Rho → R PV}
theorem c_nil : CJ X W [] cYes := by
  refine ⟨fun pins s σ H Q I ⟨H0, O0, ρ, S, G⟩ => pts_nil.run pins s σ H Q I (G H (Same.refl H))⟩
theorem c_one {c : Expr} {t : Rho → R Bool} (h : TJ X W c t) : CJ X W [c] t := pts_one h
theorem bump {K : PySem.W.Frag} {H0 H : Hp} {O0 : Addr → Prop} {σ : St} {ρ : Rho} {D : Addr} {o : HO} (S : StR K H0 O0 H σ ρ) (hD : O0 D) (h0 : H0 D = none) : StR K H0 O0 (upd H D o) σ ρ := by
  have k : ∀ a u, H a = some u → ¬ OO O0 σ ρ a → upd H D o a = some u ∧ ¬ OO O0 σ ρ a := fun a u h n => ⟨by rw [upd_ne (fun z => n (by rw [z]; exact .inl hD))]; exact h, n⟩
  refine ⟨S.len, fun b x h => by rw [upd_ne (fun z => by rw [z, h0] at h; cases h)]; exact S.same b x h, fun a h => ?_, fun i ps h => ?_, S.dis, fun i p h => ?_, S.exs⟩
  · by_cases e : a = D
    · rw [e, upd_same]; exact fun z => nomatch z
    · rw [upd_ne e]; exact S.all0 a h
  · obtain ⟨a, vs, e1, e2, e3, e4, e5⟩ := S.own i ps h
    exact ⟨a, vs, e1, by rw [upd_ne (fun z => e4 (by rw [z]; exact hD))]; exact e2, e3, e4, e5.mono k⟩
  · obtain ⟨v, e1, e2⟩ := S.val i p h
    exact ⟨v, e1, e2.mono k⟩
/-- another address is forbidden: one that is new -/
theorem forbid {K : PySem.W.Frag} {H0 H : Hp} {O0 : Addr → Prop} {σ : St} {ρ : Rho} {D : Addr} {o : HO} (S : StR K H0 O0 H σ ρ) (hD : H D = none) : StR K H0 (fun b => O0 b ∨ b = D) (upd H D o) σ ρ := by
  have oo : ∀ a, OO (fun b => O0 b ∨ b = D) σ ρ a → OO O0 σ ρ a ∨ a = D := fun a z => by
    rcases z with (z | z) | z
    · exact .inl (.inl z)
    · exact .inr z
    · exact .inl (.inr z)
  have k : ∀ a u, H a = some u → ¬ OO O0 σ ρ a → upd H D o a = some u ∧ ¬ OO (fun b => O0 b ∨ b = D) σ ρ a := fun a u h n => ⟨same_new hD a u h, fun z => (oo a z).elim n (ne_of_none h hD)⟩
  refine ⟨S.len, fun b x h => same_new hD b x (S.same b x h), fun a h => ?_, fun i ps h => ?_, S.dis, fun i p h => ?_, S.exs⟩
  · rcases h with h | h
    · cases q : H a with
      | none => exact absurd q (S.all0 a h)
      | some u => rw [same_new hD a u q]; exact fun z => nomatch z
    · rw [h, upd_same]; exact fun z => nomatch z
  · obtain ⟨a, vs, e1, e2, e3, e4, e5⟩ := S.own i ps h
    exact ⟨a, vs, e1, same_new hD _ _ e2, e3, fun z => z.elim e4 (ne_of_none e2 hD), e5.mono k⟩
  · obtain ⟨v, e1, e2⟩ := S.val i p h
    exact ⟨v, e1, e2.mono k⟩
theorem lc_run {wi : Rho → R (List PV)} {tgt : PV → Rho → Option Rho} {test : Rho → R Bool} {elt : Rho → R PV} {vs ts : List Nat} (hts : ∀ i ∈ ts, i ∈ vs) {K : PySem.W.Frag} {mg : Str → Option Value} :
    ∀ σ H Q, tE K mg W .f (eLc vs wi tgt test elt) σ H Q → tLc (tI K mg W wi) (tG K ts tgt) (tT K mg WF test) (tE K mg WF .s elt) vs σ H Q := by
  intro σ H Q ⟨H0, O0, ρ, S, G⟩
  refine ⟨H0, O0, ρ, S, ?_⟩
  revert G
  unfold eLc
  split
  · rename_i hn
    cases wi ρ with
    | stuck => exact False.elim
    | exc c => exact fun G => G
    | ok items =>
      rw [R.bind_ok]
      split
      · rename_i hz
        intro G J H1 s1 ok D hD
        cases hq : lcGo tgt test elt (wipeR ρ vs) items with
        | stuck => rw [hq] at G; exact G.elim
        | exc c => rw [hq] at G; exact absurd G (fun G => by exact (show False from G))
        | ok qs =>
          rw [hq] at G
          have S1 := S.step s1
          obtain ⟨S2, l2⟩ := wipe_st S1 vs
          have hH0 : H0 D = none := S1.same.free hD
          have S3 : StR K H0 (fun b => O0 b ∨ b = D) (upd H1 D (.lst [])) (wipe σ vs) (wipeR ρ vs) := forbid S2 hD
          have OD : OO (fun b => O0 b ∨ b = D) (wipe σ vs) (wipeR ρ vs) D := .inl (.inr rfl)
          have oo : ∀ a, OO (fun b => O0 b ∨ b = D) (wipe σ vs) (wipeR ρ vs) a → OO O0 σ ρ a ∨ a = D := fun a z => by
            rcases z with (z | z) | z
            · exact .inl (.inl z)
            · exact .inr z
            · exact .inl (l2 a (.inr z))
          refine ⟨fun i m Hc => m = items.length - i ∧ i ≤ items.length ∧ Same H1 Hc ∧ StR K H0 (fun b => O0 b ∨ b = D) Hc (wipe σ vs) (wipeR ρ vs) ∧
              ∃ ws ps rs, Hc D = some (.lst ws) ∧ Reps K Hc (OO (fun b => O0 b ∨ b = D) (wipe σ vs) (wipeR ρ vs)) ws ps ∧ ps.length ≤ i ∧ lcGo tgt test elt (wipeR ρ vs) (items.drop i) = .ok rs ∧ qs = ps ++ rs,
            ⟨items.length, by simp, Nat.zero_le _, same_new hD, S3, [], [], qs, upd_same, .nil, Nat.zero_le _, by rw [List.drop_zero]; exact hq, rfl⟩, ?_⟩
          rintro i m Hc ⟨rfl, hi, sc, Sc, ws, ps, rs, hDc, rc, hpl, hgo, hqs⟩
          have kept : Kept (OO O0 σ ρ) H1 (OO (fun b => O0 b ∨ b = D) (wipe σ vs) (wipeR ρ vs)) Hc := fun a o h n => ⟨sc a o h, fun z => (oo a z).elim n (ne_of_none h hD)⟩
          have alloc : ∀ a, OO (fun b => O0 b ∨ b = D) (wipe σ vs) (wipeR ρ vs) a → Hc a ≠ none := fun a z => Sc.there z
          by_cases hlt : i < items.length
          · refine .inr ⟨ok.go i Hc _ kept hlt, _, fun H' n => ⟨items.length - (i + 1), by omega, rfl, hlt, n⟩, fun x Hy hy => ?_⟩
            have hg : items[i]? = some items[i] := List.getElem?_eq_getElem hlt
            obtain ⟨sy, ry⟩ := ok.yld i Hc _ x Hy _ kept alloc hg hy
            have hdr : items.drop i = items[i] :: items.drop (i + 1) := List.drop_eq_getElem_cons hlt
            rw [hdr] at hgo
            refine ⟨H0, _, wipeR ρ vs, items[i], Sc.step sy, ry, ?_⟩
            unfold lcGo at hgo
            cases ht : tgt items[i] (wipeR ρ vs) with
            | none => rw [ht] at hgo; cases hgo
            | some ρ1 =>
              rw [ht] at hgo
              intro σ2 Sg lg eg kg
              refine ⟨wipe_back eg fun j hj => (kg j fun z => hj (hts j z)).1, H0, _, ρ1, Sg, ?_⟩
              have hgo : (match test ρ1 with
                | .ok true => (match elt ρ1 with
                  | .ok q => (match lcGo tgt test elt (wipeR ρ vs) (items.drop (i + 1)) with
                    | .ok qs => .ok (q :: qs)
                    | _ => .stuck)
                  | _ => .stuck)
                | .ok false => lcGo tgt test elt (wipeR ρ vs) (items.drop (i + 1))
                | _ => .stuck) = (.ok rs : R (List PV)) := hgo
              cases hte : test ρ1 with
              | stuck => rw [hte] at hgo; cases hgo
              | exc c => rw [hte] at hgo; cases hgo
              | ok b =>
                rw [hte] at hgo
                intro H3 s3
                cases b with
                | false =>
                  rw [if_neg Bool.false_ne_true]
                  have s13 := (sc.trans sy).trans s3
                  exact ⟨s13, Sc.step (sy.trans s3), ws, ps, rs, (sy.trans s3) _ _ hDc, rc.same (sy.trans s3), by omega, hgo, hqs⟩
                | true =>
                  rw [if_pos rfl]
                  refine ⟨H0, _, ρ1, Sg.step s3, ?_⟩
                  have hgo : (match elt ρ1 with
                    | .ok q => (match lcGo tgt test elt (wipeR ρ vs) (items.drop (i + 1)) with
                      | .ok qs => .ok (q :: qs)
                      | _ => .stuck)
                    | _ => .stuck) = (.ok rs : R (List PV)) := hgo
                  cases hel : elt ρ1 with
                  | stuck => rw [hel] at hgo; cases hgo
                  | exc c => rw [hel] at hgo; cases hgo
                  | ok q =>
                    rw [hel] at hgo
                    have hgo : (match lcGo tgt test elt (wipeR ρ vs) (items.drop (i + 1)) with
                      | .ok qs => .ok (q :: qs)
                      | _ => .stuck) = (.ok rs : R (List PV)) := hgo
                    cases hre : lcGo tgt test elt (wipeR ρ vs) (items.drop (i + 1)) with
                    | stuck => rw [hre] at hgo; cases hgo
                    | exc c => rw [hre] at hgo; cases hgo
                    | ok rs' =>
                      rw [hre] at hgo
                      cases hgo
                      intro y H4 s4 r4
                      have s34 := (sy.trans s3).trans s4
                      have r4 : Rep K H4 (OO (fun b => O0 b ∨ b = D) σ2 ρ1) y q := r4
                      refine ⟨ws, s34 _ _ hDc, by rw [rc.length]; omega, ?_⟩
                      have nD : ∀ {b : Addr} {o : HO} {O : Addr → Prop}, O D → H4 b = some o → ¬ O b → upd H4 D (.lst (ws ++ [y])) b = some o ∧ ¬ O b := fun {b o O} hO h n => ⟨by rw [upd_ne (fun z => n (by rw [z]; exact hO))]; exact h, n⟩
                      refine ⟨fun b o h => ?_, bump (Sc.step s34) (.inr rfl) hH0, ws ++ [y], ps ++ [q], rs', upd_same, ?_, by rw [List.length_append]; simp; omega, rfl, by rw [hqs, List.append_assoc]; rfl⟩
                      · rw [upd_ne (ne_of_none h hD)]; exact s34 _ _ (sc _ _ h)
                      · refine Reps.append ((rc.same s34).mono fun b o h n => nD OD h n) (.cons ?_ .nil)
                        refine r4.mono fun b o h n => ?_
                        have hb : b ≠ D := fun z => n (by rw [z]; exact .inl (.inr rfl))
                        refine ⟨by rw [upd_ne hb]; exact h, fun z => ?_⟩
                        rcases z with z | ⟨j, us, z1, z2⟩
                        · exact n (.inl z)
                        · have hj : j ∉ vs := fun hj => by
                            have z3 : (wipeR ρ vs)[j]? = some (.own us) := z1
                            have z4 : (wipe σ vs)[j]? = some (some (.ref b)) := z2
                            rw [wipe_get, if_pos hj] at z4
                            split at z4 <;> cases z4
                          have kj := kg j fun z => hj (hts j z)
                          exact n (.inr ⟨j, us, by rw [kj.2]; exact z1, by rw [kj.1]; exact z2⟩)
          · have e : i = items.length := by omega
            subst e
            rw [List.drop_length] at hgo
            cases hgo
            rw [List.append_nil] at hqs
            subst hqs
            refine .inl ⟨ok.stop _ Hc _ kept (Nat.le_refl _), G _ _ (s1.trans sc) ⟨D, ws, _, rfl, rfl, s1.free hD, hDc, rc.less fun a z => ?_⟩⟩
            rcases z with z | z
            · rcases wipe_oo hn z with z | z
              · exact .inl (.inl z)
              · exact .inr z
            · rw [z]; exact OD
      · exact False.elim
  · exact False.elim
variable {ifs : List Expr} {scope : Scope} {own : List (Str × Nat)} {wi : Rho → R (List PV)} {tgt : PV → Rho → Option Rho} {test : Rho → R Bool} {elt : Rho → R PV} {ts : List Nat}
theorem e_lc (hc : X.calm = true) (hN : X.N.Nodup) (hi : IJ X W tg it wi) (ok : BlkOk X.N X.env.scope scope own) (hts : ∀ i ∈ ts, i ∈ own.map (·.2))
    (hg : ∀ (s : Shared) (H : Hp) (C : Addr) (cl : List (Str × Addr)) (fp : List Addr), GJ (X.blk s H scope (compEnvC scope cl C X.env) fp) tg ts tgt)
    (ht : ∀ (s : Shared) (H : Hp) (C : Addr) (cl : List (Str × Addr)) (fp : List Addr), CJ (X.blk s H scope (compEnvC scope cl C X.env) fp) WF ifs test)
    (he : ∀ (s : Shared) (H : Hp) (C : Addr) (cl : List (Str × Addr)) (fp : List Addr), EJ (X.blk s H scope (compEnvC scope cl C X.env) fp) WF .s e elt)
    (hs : ∀ x, foldedSetIterable it X.env x = pure x := by intro _; rfl) : EJ X W .f (.ListComp e [⟨tg, it, ifs, 0⟩] scope pos) (eLc (own.map (·.2)) wi tgt test elt) :=
  pe_imp (pe_lc hc hN hi ok hg ht he hs) (lc_run hts)
end
inductive Out where
  | next (ρ : Rho) | ret (p : PV) | brk (ρ : Rho) | cont (ρ : Rho) | exc (c : Str) (ρ : Rho) | stuck
def GotS (K : PySem.W.Frag) (mg : Str → Option Value) (W : WX) (nw : Bool) (H0 : Hp) (O0 : Addr → Prop) (σ : St) (ρ : Rho) (H : Hp) (D : Ends) : Out → Prop
  | .next ρ' => ∀ σ' H', StR K H0 O0 H' σ' ρ' → Kept (OO O0 σ ρ) H (OO O0 σ' ρ') H' → D.nx σ' H'
  | .brk ρ' => ∀ σ' H', StR K H0 O0 H' σ' ρ' → Kept (OO O0 σ ρ) H (OO O0 σ' ρ') H' → D.bk σ' H'
  | .cont ρ' => ∀ σ' H', StR K H0 O0 H' σ' ρ' → Kept (OO O0 σ ρ) H (OO O0 σ' ρ') H' → D.ct σ' H'
  | .ret p => ∀ v H', Same H0 H' → RepR K O0 nw H0 H' v p → D.rt v H'
  | .exc c ρ' => ∀ C σ' H', mg c = some (.ref C) → StR K H0 O0 H' σ' ρ' → Kept (OO O0 σ ρ) H (OO O0 σ' ρ') H' → W (.ref C) none σ' H'
  | .stuck => False
def tS (K : PySem.W.Frag) (mg : Str → Option Value) (W : WX) (nw : Bool) (g : Rho → Out) : TS := fun D σ H =>
  ∃ H0 O0 ρ, StR K H0 O0 H σ ρ ∧ GotS K mg W nw H0 O0 σ ρ H D (g ρ)
abbrev SJ (X : Cx) (W : WX) (nw : Bool) (st : Stmt) (g : Rho → Out) : Prop := PS X st (tS X.K X.mg W nw g)
abbrev BJ (X : Cx) (W : WX) (nw : Bool) (st : List Stmt) (g : Rho → Out) : Prop := PSs X st (tS X.K X.mg W nw g)
def Out.then (o : Out) (k : Rho → Out) : Out := match o with
  | .next ρ => k ρ
  | o => o
section
variable {K : PySem.W.Frag} {mg : Str → Option Value} {W : WX} {nw : Bool} {H0 H H1 : Hp} {O0 : Addr → Prop} {σ σ1 : St} {ρ ρ1 : Rho} {D : Ends}
theorem GotS.later {o : Out} (k : Kept (OO O0 σ ρ) H (OO O0 σ1 ρ1) H1) (G : GotS K mg W nw H0 O0 σ ρ H D o) : GotS K mg W nw H0 O0 σ1 ρ1 H1 D o := by
  cases o with
  | next ρ' => exact fun σ' H' S k' => G σ' H' S (k.trans k')
  | brk ρ' => exact fun σ' H' S k' => G σ' H' S (k.trans k')
  | cont ρ' => exact fun σ' H' S k' => G σ' H' S (k.trans k')
  | ret p => exact G
  | exc c ρ' => exact fun C σ' H' e S k' => G C σ' H' e S (k.trans k')
  | stuck => exact G
/-- an expression's exception, from the statement's -/
theorem exc_of {c : Str} (S : StR K H0 O0 H σ ρ) (G : GotS K mg W nw H0 O0 σ ρ H D (.exc c ρ)) : ∀ C H', Same H H' → mg c = some (.ref C) → W (.ref C) none σ H' :=
  fun C H' s e => G C σ H' e (S.step s) (Kept.same s)
theorem kept_set {i : Nat} {v : Option V} {s : Slot} (hs : ∀ ps, s ≠ .own ps) (sm : Same H H1) : Kept (OO O0 σ ρ) H (OO O0 (σ.set i v) (ρ.set i s)) H1 := fun a o h n => ⟨sm a o h, fun z => n (OO.set_val hs z)⟩
theorem kept_own {i : Nat} {a : Addr} {ps : List PV} (hn : H a = none) (sm : Same H H1) : Kept (OO O0 σ ρ) H (OO O0 (σ.set i (some (.ref a))) (ρ.set i (.own ps))) H1 := fun b o h n => ⟨sm b o h, fun z => by
  rcases z with z | ⟨j, qs, h1, h2⟩
  · exact n (.inl z)
  · by_cases e : i = j
    · subst e
      by_cases hl : i < σ.length
      · rw [List.getElem?_set_self hl] at h2; cases h2
        exact ne_of_none h hn rfl
      · rw [List.getElem?_eq_none (by rw [List.length_set]; omega)] at h2; cases h2
    · rw [List.getElem?_set_ne e] at h1 h2
      exact n (.inr ⟨j, qs, h1, h2⟩)⟩
end
section
variable {X : Cx} {W : WX} {nw : Bool} {st : Stmt} {rest : List Stmt} {e : Expr} {pos : Pos} {f : Rho → R PV} {g h : Rho → Out}
theorem ps_imp {t t' : TS} (h : PS X st t) (q : ∀ D σ H, t' D σ H → t D σ H) : PS X st t' := ⟨fun pins s σ H D I hw => h.run pins s σ H D I (q D σ H hw)⟩
theorem pss_imp {sts : List Stmt} {t t' : TS} (h : PSs X sts t) (q : ∀ D σ H, t' D σ H → t D σ H) : PSs X sts t' := ⟨fun pins s σ H D I hw => h.run pins s σ H D I (q D σ H hw)⟩
def bNil : Rho → Out := .next
def bSeq (g h : Rho → Out) : Rho → Out := fun ρ => (g ρ).then h
theorem b_nil : BJ X W nw [] bNil := by
  refine pss_imp pss_nil fun D σ H ⟨H0, O0, ρ, S, G⟩ => ?_
  exact G σ H S (Kept.refl _ _)
theorem b_cons (h1 : SJ X W nw st g) (h2 : BJ X W nw rest h) : BJ X W nw (st :: rest) (bSeq g h) := by
  refine pss_imp (pss_cons h1 h2) fun D σ H ⟨H0, O0, ρ, S, G⟩ => ⟨H0, O0, ρ, S, ?_⟩
  have G' : GotS X.K X.mg W nw H0 O0 σ ρ H D ((g ρ).then h) := G
  revert G'
  cases g ρ with
  | next ρ' => exact fun G' σ' H' S' k => ⟨H0, O0, ρ', S', GotS.later k G'⟩
  | ret p => exact fun G => G
  | brk ρ' => exact fun G => G
  | cont ρ' => exact fun G => G
  | exc c ρ' => exact fun G => G
  | stuck => exact fun G => G
/-- by an expression, then on -/
def sE (f : Rho → R PV) (k : PV → Rho → Out) : Rho → Out := fun ρ => match f ρ with
  | .ok p => k p ρ
  | .exc c => .exc c ρ
  | .stuck => .stuck
theorem got_e {K : PySem.W.Frag} {mg : Str → Option Value} {H0 H : Hp} {O0 : Addr → Prop} {σ : St} {ρ : Rho} {D : Ends} {m : Md} {k : PV → Rho → Out} {Q : VK} (S : StR K H0 O0 H σ ρ) (G : GotS K mg W nw H0 O0 σ ρ H D (sE f k ρ))
    (hk : ∀ p v H', Same H H' → RepM K O0 σ ρ m H H' v p → GotS K mg W nw H0 O0 σ ρ H D (k p ρ) → Q v H') : Got K mg W O0 σ ρ m H Q (f ρ) := by
  revert G
  unfold sE
  cases f ρ with
  | ok p => exact fun G v H' s r => hk p v H' s r G
  | exc c => exact fun G => exc_of S G
  | stuck => exact fun G => G
def sDrop (f : Rho → R PV) : Rho → Out := sE f fun _ ρ => .next ρ
def sRet (f : Rho → R PV) : Rho → Out := sE f fun p _ => .ret p
theorem s_ret (he : EJ X W .s e f) : SJ X W false (.Return (some e) pos) (sRet f) := by
  refine ps_imp (ps_ret he) fun D σ H ⟨H0, O0, ρ, S, G⟩ => ⟨H0, O0, ρ, S, got_e S G fun p v H' s r G => ?_⟩
  exact G v H' (S.same.trans s) (Rep.less (fun _ z => .inl z) r)
theorem s_retF (he : EJ X W .f e f) : SJ X W true (.Return (some e) pos) (sRet f) := by
  refine ps_imp (ps_ret he) fun D σ H ⟨H0, O0, ρ, S, G⟩ => ⟨H0, O0, ρ, S, got_e S G fun p v H' s r G => ?_⟩
  obtain ⟨a, vs, ps, e1, e2, e3, e4, e5⟩ := r
  exact G v H' (S.same.trans s) ⟨a, vs, ps, e1, e2, S.same.free e3, e4, e5.less fun b z => z.elim (fun z => .inl (.inl z)) .inr⟩
/-- a list of one's own is handed back -/
def sRetO (i : Nat) : Rho → Out := fun ρ => match ρ[i]? with
  | some (.own ps) => .ret (.lst ps)
  | _ => .stuck
theorem s_retO {i : Nat} (hp : PE X e (tVar i)) : SJ X W nw (.Return (some e) pos) (sRetO i) := by
  refine ps_imp (ps_ret hp) fun D σ H ⟨H0, O0, ρ, S, G⟩ => ?_
  unfold sRetO at G
  split at G
  · rename_i ps hq
    obtain ⟨a, vs, e1, e2, e3, e4, e5⟩ := S.own i ps hq
    refine ⟨.ref a, e1, G _ _ S.same ?_⟩
    cases nw with
    | false => exact .lst e2 e4 (e5.less fun _ z => .inl z)
    | true => exact ⟨a, vs, ps, rfl, rfl, e3, e2, e5.less fun b z => z.elim .inl fun z => .inr ⟨i, ps, hq, by rw [z]; exact e1⟩⟩
  · exact G.elim
def sIf (t : Rho → R Bool) (g h : Rho → Out) : Rho → Out := fun ρ => match t ρ with
  | .ok true => g ρ
  | .ok false => h ρ
  | .exc c => .exc c ρ
  | .stuck => .stuck
theorem s_if {c : Expr} {a b : List Stmt} {t : Rho → R Bool} (hc : TJ X W c t) (ha : BJ X W nw a g) (hb : BJ X W nw b h) : SJ X W nw (.If c a b pos) (sIf t g h) := by
  refine ps_imp (ps_if hc ha hb) fun D σ H ⟨H0, O0, ρ, S, G⟩ => ⟨H0, O0, ρ, S, ?_⟩
  have G' : GotS X.K X.mg W nw H0 O0 σ ρ H D (match t ρ with
    | .ok true => g ρ
    | .ok false => h ρ
    | .exc c => .exc c ρ
    | .stuck => .stuck) := G
  revert G'
  cases t ρ with
  | ok b =>
    cases b with
    | true => exact fun G H' s => by show (if true = true then _ else _); exact iteT ⟨H0, O0, ρ, S.step s, GotS.later (Kept.same s) G⟩
    | false => exact fun G H' s => by show (if false = true then _ else _); exact iteF ⟨H0, O0, ρ, S.step s, GotS.later (Kept.same s) G⟩
  | exc c => exact fun G => exc_of S G
  | stuck => exact fun G => G
def sPass : Rho → Out := .next
def sSet (i : Nat) (f : Rho → R PV) : Rho → Out := sE f fun p ρ => .next (ρ.set i (.val p))
def sSetO (i : Nat) (f : Rho → R PV) : Rho → Out := sE f fun p ρ => match p with
  | .lst ps => .next (ρ.set i (.own ps))
  | _ => .stuck
theorem q_set {K : PySem.W.Frag} {mg : Str → Option Value} {i : Nat} {te : TE} (hte : ∀ σ H Q, tE K mg W .s f σ H Q → te σ H Q) : ∀ D σ H, tS K mg W nw (sSet i f) D σ H → tAsg te (gName i) D σ H := by
  intro D σ H ⟨H0, O0, ρ, S, G⟩
  refine hte _ _ _ ⟨H0, O0, ρ, S, got_e S G fun p v H' s r G => ?_⟩
  exact G _ H' ((S.step s).set (s := .val p) (fun _ z => nomatch z) fun q z => by cases z; exact ⟨v, rfl, r⟩) (kept_set (s := .val p) (fun _ z => nomatch z) s)
theorem q_setO {K : PySem.W.Frag} {mg : Str → Option Value} {i : Nat} {te : TE} (hte : ∀ σ H Q, tE K mg W .f f σ H Q → te σ H Q) : ∀ D σ H, tS K mg W nw (sSetO i f) D σ H → tAsg te (gName i) D σ H := by
  intro D σ H ⟨H0, O0, ρ, S, G⟩
  refine hte _ _ _ ⟨H0, O0, ρ, S, got_e S G fun p v H' s r G => ?_⟩
  obtain ⟨a, vs, ps, rfl, rfl, e3, e4, e5⟩ := r
  exact G _ H' (S.setOwn s e3 e4 e5) (kept_own e3 s)
theorem s_set {i : Nat} {x : Str} {pos' : Pos} (hN : X.N.Nodup) (hi : X.N[i]? = some x) (hx : Loc X.env.scope x) (he : EJ X W .s e f) (hs : swapsWith e (some (.Name x pos')) pos.line X.env = pure false := by rfl) (hf : X.fn x = true ∨ X.env.scope.names.lookup x = some .local := by first | exact .inl rfl | exact .inr rfl | assumption) :
    SJ X W nw (.Assign [.Name x pos'] e pos) (sSet i f) := ps_imp (ps_set hN hi hx he hs hf) (q_set fun _ _ _ z => z)
theorem s_setO {i : Nat} {x : Str} {pos' : Pos} (hN : X.N.Nodup) (hi : X.N[i]? = some x) (hx : Loc X.env.scope x) (he : EJ X W .f e f) (hs : swapsWith e (some (.Name x pos')) pos.line X.env = pure false := by rfl) (hf : X.fn x = true ∨ X.env.scope.names.lookup x = some .local := by first | exact .inl rfl | exact .inr rfl | assumption) :
    SJ X W nw (.Assign [.Name x pos'] e pos) (sSetO i f) := ps_imp (ps_set hN hi hx he hs hf) (q_setO fun _ _ _ z => z)
/-- target = e -/
def sTo (h : PV → Rho → Option Rho) (f : Rho → R PV) : Rho → Out := sE f fun p ρ => match h p ρ with
  | some ρ' => .next ρ'
  | none => .stuck
theorem s_to {tg : Expr} {ts : List Nat} {h : PV → Rho → Option Rho} (he : EJ X W .s e f) (hg : GJ X tg ts h) (hs : swapsWithSole [tg] e pos.line X.env = pure false := by rfl) (hw : swappedStores [tg] e X.env = pure none := by rfl)
    (h1 : (assignEach [tg] X.env).map (·.2) = [assign tg X.env] := by rfl) : SJ X W nw (.Assign [tg] e pos) (sTo h f) := by
  refine ps_imp (ps_asg he hg hs hw h1) fun D σ H ⟨H0, O0, ρ, S, G⟩ => ⟨H0, O0, ρ, S, got_e S G fun p v H' s r G => ?_⟩
  refine ⟨H0, O0, ρ, p, S.step s, r, ?_⟩
  revert G
  cases h p ρ with
  | none => exact False.elim
  | some ρ' => exact fun G σ' S' l _ _ => G σ' H' S' fun a o ho n => ⟨s a o ho, fun z => n (l a z)⟩
/-- a, b = x, y -/
def sPar (i j : Nat) (fA : Rho → R (List PV)) : Rho → Out := fun ρ => match fA ρ with
  | .ok [p, q] => .next ((ρ.set i (.val p)).set j (.val q))
  | .exc c => .exc c ρ
  | _ => .stuck
theorem s_par {i j : Nat} {x y : Str} {a b : Expr} {fA : Rho → R (List PV)} {px py pt : Pos} {kt k2 pt2} (hc : X.calm = true) (hN : X.N.Nodup) (hi : X.N[i]? = some x) (hj : X.N[j]? = some y) (hij : i ≠ j)
    (hx : X.env.scope.names.lookup x = some .local) (hy : X.env.scope.names.lookup y = some .local) (ha : AJ X W .s [a, b] fA)
    (hw : swappedStores [.Tuple [.Name x px, .Name y py] kt pt] (.Tuple [a, b] k2 pt2) X.env = pure (some [x, y]))
    (hs : swapsWithSole [.Tuple [.Name x px, .Name y py] kt pt] (.Tuple [a, b] k2 pt2) pos.line X.env = pure false := by rfl) :
    SJ X W nw (.Assign [.Tuple [.Name x px, .Name y py] kt pt] (.Tuple [a, b] k2 pt2) pos) (sPar i j fA) := by
  refine ps_imp (ps_par hc hN hi hj hij hx hy ha hw hs) fun D σ H ⟨H0, O0, ρ, S, G⟩ => ⟨H0, O0, ρ, S, ?_⟩
  unfold sPar at G
  revert G
  cases fA ρ with
  | stuck => exact False.elim
  | exc c => exact fun G => exc_of S G
  | ok ps =>
    match ps with
    | [p, q] =>
      intro G vs H' s r
      obtain ⟨v, w, rfl, r1, r2⟩ := pr2 r
      refine ⟨v, w, rfl, ?_⟩
      have S1 := S.step s
      have S2 := S1.set (i := i) (v := some v) (s := .val p) (fun _ z => nomatch z) fun q z => by cases z; exact ⟨v, rfl, r1⟩
      have l1 : ∀ a, OO O0 (σ.set i (some v)) (ρ.set i (.val p)) a → OO O0 σ ρ a := fun a z => OO.set_val (s := .val p) (fun _ z => nomatch z) z
      have r2' : Rep X.K H' (OO O0 (σ.set i (some v)) (ρ.set i (.val p))) w q := Rep.less l1 r2
      have S3 := S2.set (i := j) (v := some w) (s := .val q) (fun _ z => nomatch z) fun q' z => by cases z; exact ⟨w, rfl, r2'⟩
      exact G _ H' S3 fun a o ho n => ⟨s a o ho, fun z => n (l1 a (OO.set_val (s := .val q) (fun _ z => nomatch z) z))⟩
    | [] => exact False.elim
    | [_] => exact False.elim
    | _ :: _ :: _ :: _ => exact False.elim
/-- x op= e, by values -/
def sAug (i : Nat) (g : PV → PV → R PV) (f : Rho → R PV) : Rho → Out := fun ρ => match ρ[i]? with
  | some (.val x) => sE (fun ρ => (f ρ).bind fun y => g x y) (fun z ρ => .next (ρ.set i (.val z))) ρ
  | _ => .stuck
theorem s_aug {i : Nat} {x : Str} {op : Operator} {r : R2} {g : PV → PV → R PV} {pos' : Pos} (hN : X.N.Nodup) (hi : X.N[i]? = some x) (hx : Loc X.env.scope x) (he : EJ X W .t e f) (hr : OpR X (inplaceOp op) r) (hg : ∀ p q c, g p q ≠ .exc c) (ho : OpS X.K r .t .t .s g) (hf : X.fn x = true ∨ X.env.scope.names.lookup x = some .local := by first | exact .inl rfl | exact .inr rfl | assumption) :
    SJ X W nw (.AugAssign (.Name x pos') op e pos) (sAug i g f) := by
  refine ps_imp (ps_aug hN hi hx he (ti := r) (fun pins s σ H x y v u Q I r1 r2 h => hr pins s σ H x y v u Q I r1 r2 h) hf) fun D σ H ⟨H0, O0, ρ, S, G⟩ => ?_
  unfold sAug at G
  split at G
  · rename_i p hp
    obtain ⟨v, e1, e2⟩ := S.val i p hp
    refine ⟨v, e1, H0, O0, ρ, S, ?_⟩
    have G' : GotS X.K X.mg W nw H0 O0 σ ρ H D (match (f ρ).bind fun y => g p y with
      | .ok z => .next (ρ.set i (.val z))
      | .exc c => .exc c ρ
      | .stuck => .stuck) := G
    revert G'
    cases f ρ with
    | stuck => exact False.elim
    | exc c => exact fun G => exc_of S G
    | ok q =>
      intro G y H1 s1 r1
      refine ho S s1 (RepM.s_t (H := H) (Rep.same s1 e2)) r1 ?_
      revert G
      rw [R.bind_ok]
      cases hz : g p q with
      | stuck => exact False.elim
      | exc c => exact absurd hz (hg p q c)
      | ok z => exact fun G w H2 s2 r2 => G _ H2 ((S.step (s1.trans s2)).set (s := .val z) (fun _ z => nomatch z) fun q z => by cases z; exact ⟨w, rfl, r2⟩) (kept_set (s := .val z) (fun _ z => nomatch z) (s1.trans s2))
  · exact G.elim
theorem s_augAdd {i : Nat} {x : Str} {pos' : Pos} (hN : X.N.Nodup) (hi : X.N[i]? = some x) (hx : Loc X.env.scope x) (he : EJ X W .t e f) (hf : X.fn x = true ∨ X.env.scope.names.lookup x = some .local := by first | exact .inl rfl | exact .inr rfl | assumption) :
    SJ X W nw (.AugAssign (.Name x pos') .Add e pos) (sAug i (intP (fun _ _ => true) fun a b => .int (a + b)) f) := s_aug hN hi hx he iop_add intP_exc (s_int0 fun _ _ _ _ => .int _) hf
/-- a list is let go -/
def sFrz (i : Nat) (g : Rho → Out) : Rho → Out := fun ρ => match ρ[i]? with
  | some (.own ps) => g (ρ.set i (.val (.lst ps)))
  | _ => g ρ
theorem s_frz {i : Nat} {sts : List Stmt} (h : BJ X W nw sts g) : BJ X W nw sts (sFrz i g) := by
  refine pss_imp h fun D σ H ⟨H0, O0, ρ, S, G⟩ => ?_
  unfold sFrz at G
  split at G
  · rename_i ps hp
    have k : Kept (OO O0 σ ρ) H (OO O0 σ (ρ.set i (.val (.lst ps)))) H := fun a o h n => ⟨h, fun z => n (by
      rcases z with z | ⟨j, qs, h1, h2⟩
      · exact .inl z
      · by_cases e : i = j
        · subst e
          rw [List.getElem?_set_self (List.getElem?_eq_some_iff.mp hp).1] at h1; cases h1
        · rw [List.getElem?_set_ne e] at h1
          exact .inr ⟨j, qs, h1, h2⟩)⟩
    exact ⟨H0, O0, _, S.freeze hp, GotS.later k G⟩
  · exact ⟨H0, O0, ρ, S, G⟩
end
end PL
set_option Elab.async false
set_option linter.all false
set_option maxRecDepth 100000
set_option autoImplicit false
namespace PL
open PySem PySem.Spec L2
open PyProof.Rows hiding St
section
variable {X : Cx} {W : WX} {nw : Bool} {st : Stmt} {rest : List Stmt} {e : Expr} {pos : Pos} {f : Rho → R PV} {g h : Rho → Out}
def forL (tgt : PV → Rho → Option Rho) (body : Rho → Out) : List PV → Rho → Out
  | [], ρ => .next ρ
  | p :: ps, ρ => match tgt p ρ with
    | none => .stuck
    | some ρ1 => match body ρ1 with
      | .next ρ' => forL tgt body ps ρ'
      | .cont ρ' => forL tgt body ps ρ'
      | .brk ρ' => .next ρ'
      | o => o
def sFor (it : Rho → R (List PV)) (tgt : PV → Rho → Option Rho) (body : Rho → Out) : Rho → Out := fun ρ => match it ρ with
  | .ok items => forL tgt body items ρ
  | .exc c => .exc c ρ
  | .stuck => .stuck
theorem s_for {tg it : Expr} {body : List Stmt} {wi : Rho → R (List PV)} {tgt : PV → Rho → Option Rho} {ts : List Nat} (hp : PassesOwn (model X.prog X.w) X.A X.env X.xe) (hc : X.calm = true) (hi : IJ X W tg it wi) (hg : GJ X tg ts tgt) (hb : BJ X W nw body g) (hs : ∀ x, foldedSetIterable it X.env x = pure x := by intro _; rfl) : SJ X W nw (.For tg it body [] pos) (sFor wi tgt g) := by
  refine ps_imp (ps_for hp hc hi hg hb hs) fun D σ H ⟨H0, O0, ρ, S, G⟩ => ⟨H0, O0, ρ, S, ?_⟩
  have G' : GotS X.K X.mg W nw H0 O0 σ ρ H D (match wi ρ with
    | .ok items => forL tgt g items ρ
    | .exc c => .exc c ρ
    | .stuck => .stuck) := G
  revert G'
  cases wi ρ with
  | stuck => exact False.elim
  | exc c => exact fun G => exc_of S G
  | ok items =>
    intro G J H1 s1 ok
    refine ⟨fun i m σc Hc => m = items.length - i ∧ i ≤ items.length ∧ ∃ ρc, StR X.K H0 O0 Hc σc ρc ∧ Kept (OO O0 σ ρ) H1 (OO O0 σc ρc) Hc ∧ GotS X.K X.mg W nw H0 O0 σc ρc Hc D (forL tgt g (items.drop i) ρc),
      ⟨items.length, by simp, Nat.zero_le _, ρ, S.step s1, Kept.refl _ _, by rw [List.drop_zero]; exact GotS.later (Kept.same s1) G⟩, ?_⟩
    rintro i m σc Hc ⟨rfl, hi, ρc, Sc, kc, Gc⟩
    by_cases hlt : i < items.length
    · refine .inr ⟨ok.go i Hc _ kc hlt, fun σ' H' => ∃ ρ', StR X.K H0 O0 H' σ' ρ' ∧ Kept (OO O0 σ ρ) H1 (OO O0 σ' ρ') H' ∧ GotS X.K X.mg W nw H0 O0 σ' ρ' H' D (forL tgt g (items.drop (i + 1)) ρ'), fun σ' H' n => ⟨items.length - (i + 1), by omega, rfl, hlt, n⟩, fun x Hy hy => ?_⟩
      have hg : items[i]? = some items[i] := List.getElem?_eq_getElem hlt
      obtain ⟨sy, ry⟩ := ok.yld i Hc _ x Hy _ kc (fun a z => Sc.there z) hg hy
      have hdr : items.drop i = items[i] :: items.drop (i + 1) := List.drop_eq_getElem_cons hlt
      rw [hdr] at Gc
      refine ⟨H0, O0, ρc, items[i], Sc.step sy, ry, ?_⟩
      unfold forL at Gc
      revert Gc
      cases tgt items[i] ρc with
      | none => exact False.elim
      | some ρ1 =>
        intro Gc σ2 S2 l2 _ _
        have k2 : Kept (OO O0 σc ρc) Hc (OO O0 σ2 ρ1) Hy := fun a o h n => ⟨sy a o h, fun z => n (l2 a z)⟩
        refine ⟨H0, O0, ρ1, S2, ?_⟩
        have Gc' := GotS.later k2 Gc
        revert Gc'
        dsimp only
        cases g ρ1 with
        | next ρ' => exact fun Gc' σ' H' S' k' => ⟨ρ', S', (kc.trans k2).trans k', GotS.later k' Gc'⟩
        | cont ρ' => exact fun Gc' σ' H' S' k' => ⟨ρ', S', (kc.trans k2).trans k', GotS.later k' Gc'⟩
        | brk ρ' => exact fun G => G
        | ret p => exact fun G => G
        | exc c ρ' => exact fun G => G
        | stuck => exact fun G => G
    · have e : i = items.length := by omega
      subst e
      rw [List.drop_length] at Gc
      exact .inl ⟨ok.stop _ Hc _ kc (Nat.le_refl _), Gc σc Hc Sc (Kept.refl _ _)⟩
def whN (t : Rho → R Bool) (b : Rho → Out) : Nat → Rho → Out
  | 0, _ => .stuck
  | n + 1, ρ => match t ρ with
    | .stuck => .stuck
    | .exc c => .exc c ρ
    | .ok false => .next ρ
    | .ok true => match b ρ with
      | .next ρ' => whN t b n ρ'
      | .cont ρ' => whN t b n ρ'
      | .brk ρ' => .next ρ'
      | o => o
theorem whN_more {t : Rho → R Bool} {b : Rho → Out} : ∀ (n : Nat) (ρ : Rho), whN t b n ρ ≠ .stuck → whN t b (n + 1) ρ = whN t b n ρ
  | 0, ρ, h => absurd rfl h
  | n + 1, ρ, h => by
    unfold whN at h
    rw [whN]
    conv => rhs; rw [whN]
    revert h
    cases t ρ with
    | stuck => exact fun _ => rfl
    | exc c => exact fun _ => rfl
    | ok k =>
      cases k with
      | false => exact fun _ => rfl
      | true =>
        dsimp only
        cases b ρ with
        | next ρ' => exact fun h => whN_more n ρ' h
        | cont ρ' => exact fun h => whN_more n ρ' h
        | _ => exact fun _ => rfl
theorem whN_le {t : Rho → R Bool} {b : Rho → Out} {n m : Nat} {ρ : Rho} (h : whN t b n ρ ≠ .stuck) (hl : n ≤ m) : whN t b m ρ = whN t b n ρ := by
  induction m with
  | zero => rw [Nat.le_zero.mp hl]
  | succ m ih =>
    by_cases e : n = m + 1
    · rw [e]
    · have q := ih (by omega)
      rw [whN_more m ρ (by rw [q]; exact h), q]
open Classical in
noncomputable def sWh (t : Rho → R Bool) (b : Rho → Out) (ρ : Rho) : Out := if h : ∃ n, whN t b n ρ ≠ .stuck then whN t b h.choose ρ else .stuck
theorem sWh_of {t : Rho → R Bool} {b : Rho → Out} {n : Nat} {ρ : Rho} (h : whN t b n ρ ≠ .stuck) : sWh t b ρ = whN t b n ρ := by
  have hx : ∃ n, whN t b n ρ ≠ .stuck := ⟨n, h⟩
  unfold sWh
  rw [dif_pos hx]
  have hc := hx.choose_spec
  rcases Nat.le_total n hx.choose with l | l
  · exact whN_le h l
  · exact (whN_le hc l).symm
theorem sWh_ex {t : Rho → R Bool} {b : Rho → Out} {ρ : Rho} (h : sWh t b ρ ≠ .stuck) : ∃ n, whN t b n ρ = sWh t b ρ := by
  by_cases hx : ∃ n, whN t b n ρ ≠ .stuck
  · obtain ⟨n, hn⟩ := hx
    exact ⟨n, (sWh_of hn).symm⟩
  · unfold sWh at h
    rw [dif_neg hx] at h
    exact absurd rfl h
/-- one turn -/
theorem sWh_eq (t : Rho → R Bool) (b : Rho → Out) (ρ : Rho) : sWh t b ρ = (match t ρ with
    | .stuck => .stuck
    | .exc c => .exc c ρ
    | .ok false => .next ρ
    | .ok true => match b ρ with
      | .next ρ' => sWh t b ρ'
      | .cont ρ' => sWh t b ρ'
      | .brk ρ' => .next ρ'
      | o => o) := by
  have go : ∀ ρ', (∀ n, whN t b (n + 1) ρ = whN t b n ρ') → sWh t b ρ = sWh t b ρ' := fun ρ' q => by
    by_cases h : sWh t b ρ' = .stuck
    · rw [h]
      by_cases h2 : sWh t b ρ = .stuck
      · exact h2
      · obtain ⟨n, hn⟩ := sWh_ex h2
        have hn' : whN t b n ρ ≠ .stuck := by rw [hn]; exact h2
        have e : whN t b n ρ' ≠ .stuck := by rw [← q n, whN_more n ρ hn']; exact hn'
        rw [sWh_of e] at h
        exact absurd h e
    · obtain ⟨n, hn⟩ := sWh_ex h
      have e : whN t b (n + 1) ρ ≠ .stuck := by rw [q n, hn]; exact h
      rw [sWh_of e, q n, hn]
  have one : ∀ o, o ≠ .stuck → whN t b 1 ρ = o → sWh t b ρ = o := fun o ho e => by rw [← e]; exact sWh_of (by rw [e]; exact ho)
  have non : (∀ n, whN t b n ρ = .stuck) → sWh t b ρ = .stuck := fun q => by
    unfold sWh
    rw [dif_neg (fun ⟨n, hn⟩ => hn (q n))]
  cases ht : t ρ with
  | stuck => exact non fun n => by cases n with | zero => rfl | succ n => rw [whN, ht]
  | exc c => exact one _ (fun z => nomatch z) (by rw [whN, ht])
  | ok k =>
    cases k with
    | false => exact one _ (fun z => nomatch z) (by rw [whN, ht])
    | true =>
      dsimp only
      cases hb : b ρ with
      | next ρ' => exact go ρ' fun n => by rw [whN, ht]; dsimp only; rw [hb]
      | cont ρ' => exact go ρ' fun n => by rw [whN, ht]; dsimp only; rw [hb]
      | brk ρ' => exact one _ (fun z => nomatch z) (by rw [whN, ht]; dsimp only; rw [hb])
      | ret p => exact one _ (fun z => nomatch z) (by rw [whN, ht]; dsimp only; rw [hb])
      | exc c ρ' => exact one _ (fun z => nomatch z) (by rw [whN, ht]; dsimp only; rw [hb])
      | stuck => exact non fun n => by cases n with | zero => rfl | succ n => rw [whN, ht]; dsimp only; rw [hb]
theorem s_while {c : Expr} {body : List Stmt} {t : Rho → R Bool} (hp : PassesOwn (model X.prog X.w) X.A X.env X.xe) (hc : TJ X W c t) (hb : BJ X W nw body g) : SJ X W nw (.While c body [] pos) (sWh t g) := by
  refine ps_imp (ps_while hp hc hb) fun D σ H ⟨H0, O0, ρ, S, G⟩ => ?_
  have ns : sWh t g ρ ≠ .stuck := fun z => by rw [z] at G; exact G
  obtain ⟨n, hn⟩ := sWh_ex ns
  rw [← hn] at G
  refine ⟨fun m σc Hc => ∃ ρc, StR X.K H0 O0 Hc σc ρc ∧ GotS X.K X.mg W nw H0 O0 σc ρc Hc D (whN t g m ρc), ⟨n, ρ, S, G⟩, ?_⟩
  rintro m σc Hc ⟨ρc, Sc, Gc⟩
  cases m with
  | zero => exact Gc.elim
  | succ m =>
    refine ⟨H0, O0, ρc, Sc, ?_⟩
    unfold whN at Gc
    revert Gc
    cases t ρc with
    | stuck => exact False.elim
    | exc c => exact fun G => exc_of Sc G
    | ok k =>
      cases k with
      | false => exact fun G H1 s1 => iteF (G σc H1 (Sc.step s1) (Kept.same s1))
      | true =>
        dsimp only
        intro G H1 s1
        refine iteT ⟨fun σ' H' => ∃ ρ', StR X.K H0 O0 H' σ' ρ' ∧ GotS X.K X.mg W nw H0 O0 σ' ρ' H' D (whN t g m ρ'), fun σ' H' z => ⟨m, Nat.lt_succ_self m, z⟩, H0, O0, ρc, Sc.step s1, ?_⟩
        have G' := GotS.later (Kept.same s1) G
        revert G'
        cases g ρc with
        | next ρ' => exact fun Gc' σ' H' S' k' => ⟨ρ', S', GotS.later k' Gc'⟩
        | cont ρ' => exact fun Gc' σ' H' S' k' => ⟨ρ', S', GotS.later k' Gc'⟩
        | brk ρ' => exact fun G => G
        | ret p => exact fun G => G
        | exc c ρ' => exact fun G => G
        | stuck => exact fun G => G
theorem kept_write {O0 : Addr → Prop} {σ : St} {ρ : Rho} {H : Hp} {i : Nat} {a : Addr} {ps qs : List PV} {ws : List V} (h1 : ρ[i]? = some (.own ps)) (h2 : σ[i]? = some (some (.ref a))) : Kept (OO O0 σ ρ) H (OO O0 σ (ρ.set i (.own qs))) (upd H a (.lst ws)) := fun b o h n =>
  ⟨by rw [upd_ne (fun z => n (by rw [z]; exact .inr ⟨i, ps, h1, h2⟩))]; exact h, fun z => n (by
    rcases z with z | ⟨j, rs, e1, e2⟩
    · exact .inl z
    · by_cases e : i = j
      · subst e; exact .inr ⟨i, ps, h1, e2⟩
      · rw [List.getElem?_set_ne e] at e1; exact .inr ⟨j, rs, e1, e2⟩)⟩
/-- by the list of slot i and a value -/
def sMut (i : Nat) (g : List PV → PV → R (List PV)) (f : Rho → R PV) : Rho → Out := fun ρ => match ρ[i]? with
  | some (.own ps) => sE f (fun p ρ => match g ps p with
    | .ok qs => .next (ρ.set i (.own qs))
    | _ => .stuck) ρ
  | _ => .stuck
def appP (ps : List PV) (p : PV) : R (List PV) := if ps.length < sizeLine then .ok (ps ++ [p]) else .stuck
variable {o : Expr} {apos : Pos} {i : Nat}
theorem s_app (ho : PE X o (tVar i)) (he : EJ X W .s e f) (hs : swapsWith (.Call (.Attribute o "append" apos) [e] [] pos) none pos.line X.env = pure false := by rfl)
    (hbase : attributeBase o "append" X.env (eval o X.env) = eval o X.env := by rfl)
    (hfew : ((backTo pos (starEach [e] X.env)).all (fun x => !x.1) && (backToKw pos (keywordEach [] X.env)).all (fun x => x.1.isSome)
      && decide ([e].length + ([] : List Keyword).length + (if ([] : List Keyword).isEmpty then 0 else 1) < 30)) = true := by rfl)
    (hline : (apos.endLine == pos.line) = true := by rfl) (hs1 : starEach [e] X.env = (false, eval e X.env) :: starEach [] X.env := by rfl) (hplain : (backTo pos (starEach [] X.env)).any (·.1) = false := by rfl) :
    SJ X W nw (.Expr (.Call (.Attribute o "append" apos) [e] [] pos) pos) (sMut i appP f) := by
  refine ps_imp (ps_expr (pe_bm PySem.F.plainAttrs_list PySem.F.slot_list_append PySem.F.type_list_append mt_append ho (pa_cons he pa_nil hs1) hbase hfew hline hs1 hplain) hs) fun D σ H ⟨H0, O0, ρ, S, G⟩ => ?_
  unfold sMut at G
  split at G
  · rename_i ps hp
    obtain ⟨a, vs, e1, e2, e3, e4, e5⟩ := S.own i ps hp
    refine ⟨.ref a, e1, .inl ⟨rfl, vs, .inl (.inl e2)⟩, H0, O0, ρ, S, got_e S G fun p v H1 s1 r1 G => ?_⟩
    unfold appP at G
    split at G
    · rename_i qs hq
      split at hq
      · rename_i hz
        cases hq
        have r5 := (e5.same s1).append (.cons (show Rep X.K H1 (OO O0 σ ρ) v p from r1) .nil)
        exact ⟨a, vs, v, rfl, rfl, s1 _ _ e2, by rw [e5.length]; exact hz, G _ _ ((S.step s1).write hp e1 r5) ((Kept.same s1).trans (kept_write hp e1))⟩
      · cases hq
    · exact G.elim
  · exact G.elim
/-- xs[j] = e -/
def setP (ps : List PV) (p : PV) : PV → R (List PV)
  | .int k => match ixN ps.length k with
    | some j => .ok (ps.set j p)
    | none => .stuck
  | _ => .stuck
def sSetI (i : Nat) (f fi : Rho → R PV) : Rho → Out := fun ρ => match ρ[i]? with
  | some (.own ps) => sE f (fun p => sE fi fun q ρ => match setP ps p q with
    | .ok qs => .next (ρ.set i (.own qs))
    | _ => .stuck) ρ
  | _ => .stuck
theorem s_setI {ix : Expr} {fi : Rho → R PV} {p2 : Pos} (ho : PE X o (tVar i)) (he : EJ X W .s e f) (hi : EJ X W .s ix fi)
    (ha : ∀ v, assign (.Subscript o ix p2) X.env v = (do
      let ov ← holding [v] (eval o X.env)
      let iv ← holding [v, ov] (eval ix X.env)
      standAt p2
      holding [v, ov, iv] (setItem ov iv v)
      release [v, ov, iv] []) := by intro _; rfl)
    (hs : swapsWithSole [.Subscript o ix p2] e pos.line X.env = pure false := by rfl) (hw : swappedStores [.Subscript o ix p2] e X.env = pure none := by rfl)
    (h1 : (assignEach [.Subscript o ix p2] X.env).map (·.2) = [assign (.Subscript o ix p2) X.env] := by rfl) : SJ X W nw (.Assign [.Subscript o ix p2] e pos) (sSetI i f fi) := by
  refine ps_imp (ps_asg he (pg_sub ho hi set_list ha) hs hw h1) fun D σ H ⟨H0, O0, ρ, S, G⟩ => ?_
  unfold sSetI at G
  split at G
  · rename_i ps hp
    refine ⟨H0, O0, ρ, S, got_e S G fun p v H1 s1 r1 G => ?_⟩
    have r1 : Rep X.K H1 (OO O0 σ ρ) v p := r1
    have S1 := S.step s1
    obtain ⟨a, vs, e1, e2, e3, e4, e5⟩ := S1.own i ps hp
    refine ⟨.ref a, e1, H0, O0, ρ, S1, got_e S1 (GotS.later (Kept.same s1) G) fun q w H2 s2 r2 G => ?_⟩
    unfold setP at G
    split at G
    · rename_i qs hq
      split at hq
      · split at hq
        · rename_i j hj
          cases hq
          cases (show Rep X.K H2 (OO O0 σ ρ) w (.int _) from r2)
          have r5 := (e5.same s2).set (r1.same s2) j
          exact ⟨a, vs, _, j, rfl, rfl, s2 _ _ e2, by rw [e5.length]; exact hj, G _ _ ((S1.step s2).write hp e1 r5) ((Kept.same s2).trans (kept_write hp e1))⟩
        · cases hq
      · cases hq
    · exact G.elim
  · exact G.elim
/-- what is known of a class of errors of the text's own -/
structure ExcT (K : PySem.W.Frag) (mg : Str → Option Value) (x : Str) (C : Addr) : Prop where
  g : mg x = some (.ref C)
  ex : PySem.W.excIn K C [.type "ValueError", .type "Exception", .type "BaseException", .type "object"] "ValueError.__new__" = true
  kp : PySem.W.keepIn K (.ref C) = true
  sb : PySem.W.subIn K (.ref C) (.type "BaseException") = some true
  ty : PySem.W.typeIn K (.ref C) = some (.type "type")
def sRaise (x : Str) : Rho → Out := .exc x
theorem s_raise {x m : Str} {C : Addr} {j : Nat} {p p2 p3 : Pos} (T : ExcT X.K X.mg x C) (hc : X.calm = true) (tk : L2N.Takes X W) (hg : Gl X x) (hdb : (x == ("__debug__" : Str)) = false := by decide) : SJ X W nw (.Raise (some (.Call (.Name x p) [.Constant (.str m) j p2] [] p3)) none pos) (sRaise x) := by
  refine ps_imp (L2N.ps_raise hc tk (L2N.pmk_own PySem.F.excBase_ValueError T.ex T.g T.kp (raises_own T.sb T.ty) hg hdb)) fun D σ H ⟨H0, O0, ρ, S, G⟩ => ?_
  exact G C σ H T.g S (Kept.refl _ _)
end
def runF (n : Nat) (g : Rho → Out) : List PV → R PV := fun ps => match g (ps.map Slot.val ++ List.replicate (n - ps.length) Slot.un) with
  | .ret p => .ok p
  | .next _ => .ok .non
  | .exc c _ => .exc c
  | _ => .stuck
theorem start_st {K : PySem.W.Frag} {H : Hp} {O : Addr → Prop} {vs : List V} {ps : List PV} {N : List Str} (al : ∀ a, O a → H a ≠ none) (r : Reps K H O vs ps) : StR K H O H (L2.start N vs) (ps.map Slot.val ++ List.replicate (N.length - ps.length) Slot.un) := by
  have hl := r.length
  have noown : ∀ (i : Nat) qs, (ps.map Slot.val ++ List.replicate (N.length - ps.length) Slot.un)[i]? ≠ some (.own qs) := fun i qs e => by
    have := List.mem_of_getElem? e
    rcases List.mem_append.mp this with z | z
    · obtain ⟨p, _, z⟩ := List.mem_map.mp z
      cases z
    · cases (List.mem_replicate.mp z).2
  have oo : ∀ a, OO O (L2.start N vs) (ps.map Slot.val ++ List.replicate (N.length - ps.length) Slot.un) a → O a := fun a z => by
    rcases z with z | ⟨i, qs, h1, _⟩
    · exact z
    · exact absurd h1 (noown i qs)
  refine ⟨by unfold L2.start; simp [hl], Same.refl H, al, fun i qs h => absurd h (noown i qs), fun i j a qs rs h => absurd h (noown i qs), fun i p h => ?_, fun i a h => by
    have := List.mem_of_getElem? h
    rcases List.mem_append.mp this with z | z
    · obtain ⟨p, _, z⟩ := List.mem_map.mp z
      cases z
    · cases (List.mem_replicate.mp z).2⟩
  by_cases hi : i < ps.length
  · rw [List.getElem?_append_left (by rw [List.length_map]; exact hi), List.getElem?_map] at h
    cases hq : ps[i]? with
    | none => rw [hq] at h; cases h
    | some q =>
      rw [hq] at h
      cases h
      obtain ⟨v, h1, h2⟩ := r.get hq
      refine ⟨v, ?_, h2.less oo⟩
      unfold L2.start
      rw [List.getElem?_append_left (by rw [List.length_map, hl]; exact hi), List.getElem?_map, h1]
      rfl
  · rw [List.getElem?_append_right (by rw [List.length_map]; omega)] at h
    have := List.mem_of_getElem? h
    cases (List.mem_replicate.mp this).2
section
variable {P : Program} {w : World} {K : PySem.W.Frag} {mg : Str → Option Value} {base : Heap}
theorem Fun_okN {x qual : Str} {st : Stmt} {f : Addr} {fd : FuncData} {N ps : List Str} {k : Nat} {sp : Sp} (F : Fun K x qual st f fd) (S : FnScope N ps (defScope st)) (len : ∀ vs H Q E, sp vs H Q E → vs.length = ps.length)
    (hbody : ∀ (cdv : Value) (A : Around) (outer : List PySem.Env) (s : Shared) (H : Hp) (vs : List V) (Q : VK) (E : XK), Room k (A.deeper (envOfC qual (defScope st) s.heap.objs.size f cdv)) → sp vs H Q E →
      ∃ t, PSs (cxOf (L2N.CX P w) P w K mg base N qual (defScope st) f cdv A outer s H E) (defBody st) t ∧ t { nx := fun _ H' => Q .non H', rt := Q } (L2.start N vs) H) : FnOk P w K mg base (L2N.CX P w) (k + 1) f fd ps sp := by
  obtain ⟨oc, od, kV, doc, pm, an, cdv, ct, osl, rfl, lk, hcd⟩ := F.ex
  exact fn_of lk hcd S len fun A outer s H vs Q E hr hsp => hbody cdv A outer s H vs Q E hr hsp
theorem fn_mk {x qual : Str} {st : Stmt} {f : Addr} {fd : FuncData} {N ps : List Str} {k n : Nat} {nw : Bool} {g : Rho → Out} (F : Fun K x qual st f fd) (S : FnScope N ps (defScope st)) (hn : n = ps.length) (hnw : nw = true → ∀ l, ∀ ρ, g l ≠ .next ρ)
    (hbody : ∀ (cdv : Value) (A : Around) (outer : List PySem.Env) (s : Shared) (H : Hp) (E : XK), Room k (A.deeper (envOfC qual (defScope st) s.heap.objs.size f cdv)) →
      BJ (cxOf (L2N.CX P w) P w K mg base N qual (defScope st) f cdv A outer s H E) (fun cls d _ H => E cls d H) nw (defBody st) g) :
    FnOk P w K mg base (L2N.CX P w) (k + 1) f fd ps (spF K mg n nw (runF N.length g)) := by
  refine Fun_okN F S (fun vs H Q E h => ?_) (fun cdv A outer s H vs Q E hr h => ?_)
  · obtain ⟨_, _, _, _, e, _⟩ := h
    rw [e, hn]
  · obtain ⟨qs, O, al, r, e, h⟩ := h
    refine ⟨_, hbody cdv A outer s H E hr, H, O, _, start_st al r, ?_⟩
    have h' : (match runF N.length g qs with
      | .ok p => ∀ v H', Same H H' → RepR K O nw H H' v p → Q v H'
      | .exc c => ∀ C H', Same H H' → mg c = some (.ref C) → E (.ref C) none H'
      | .stuck => False) := h
    unfold runF at h'
    revert h'
    cases hg : g (qs.map Slot.val ++ List.replicate (N.length - qs.length) Slot.un) with
    | ret p => exact fun h v H' s r => h v H' s r
    | next ρ' =>
      intro h σ' H' S' _
      cases nw with
      | false => exact h _ _ S'.same .non
      | true => exact absurd hg (hnw rfl _ _)
    | exc c ρ' => exact fun h C σ' H' e S' _ => h C H' S'.same e
    | brk ρ' => exact False.elim
    | cont ρ' => exact False.elim
    | stuck => exact False.elim
/-- from inside a def: what a body's statements need of its context -/
theorem tk_of {N : List Str} {qual : Str} {scope : Scope} {f : Addr} {cdv : Value} {A : Around} {outer : List PySem.Env} {s : Shared} {H : Hp} {E : XK} : L2N.Takes (cxOf (L2N.CX P w) P w K mg base N qual scope f cdv A outer s H E) (fun cls d _ H => E cls d H) := L2N.takes_of rfl rfl rfl rfl
theorem hp_of {N : List Str} {qual : Str} {scope : Scope} {f : Addr} {cdv : Value} {A : Around} {outer : List PySem.Env} {s : Shared} {H : Hp} {E : XK} : PassesOwn (model P w) (cxOf (L2N.CX P w) P w K mg base N qual scope f cdv A outer s H E).A (cxOf (L2N.CX P w) P w K mg base N qual scope f cdv A outer s H E).env (cxOf (L2N.CX P w) P w K mg base N qual scope f cdv A outer s H E).xe := passes_of rfl
end
structure DefT (K : PySem.W.Frag) (mg : Str → Option Value) (x : Str) (st : Stmt) (ps : List Str) (f : Addr) (fd : FuncData) : Prop where
  F : Fun K x x st f fd
  g : mg x = some (.ref f)
  b : L2.Binds K fd ps []
def DefE (K : PySem.W.Frag) (mg : Str → Option Value) (x : Str) (st : Stmt) (ps : List Str) : Prop := ∃ f fd, DefT K mg x st ps f fd
def Okd (P : Program) (w : World) (K : PySem.W.Frag) (mg : Str → Option Value) (base : Heap) (x : Str) (ps : List Str) (k n : Nat) (nw : Bool) (F : List PV → R PV) : Prop :=
  ∃ f fd, mg x = some (.ref f) ∧ PySem.W.keepIn K (.ref f) = true ∧ L2.Binds K fd ps [] ∧ FnOk P w K mg base (L2N.CX P w) k f fd ps (spF K mg n nw F)
section
variable {P : Program} {w : World} {K : PySem.W.Frag} {mg : Str → Option Value} {base : Heap}
theorem def_ok {x : Str} {st : Stmt} {N ps : List Str} {k n : Nat} {nw : Bool} {g : Rho → Out} (T : DefE K mg x st ps) (S : FnScope N ps (defScope st)) (hn : n = ps.length) (hnw : nw = true → ∀ l, ∀ ρ, g l ≠ .next ρ)
    (hbody : ∀ (f : Addr) (cdv : Value) (A : Around) (outer : List PySem.Env) (s : Shared) (H : Hp) (E : XK), Room k (A.deeper (envOfC x (defScope st) s.heap.objs.size f cdv)) →
      BJ (cxOf (L2N.CX P w) P w K mg base N x (defScope st) f cdv A outer s H E) (fun cls d _ H => E cls d H) nw (defBody st) g) :
    Okd P w K mg base x ps (k + 1) n nw (runF N.length g) := by
  obtain ⟨f, fd, T⟩ := T
  exact ⟨f, fd, T.g, T.F.kp, T.b, fn_mk T.F S hn hnw (hbody f)⟩
variable {X : Cx} {W : WX} {e : Expr} {es : List Expr} {pos p : Pos} {fA : Rho → R (List PV)}
theorem aCons_len {f : Rho → R PV} {g : Rho → R (List PV)} {n : Nat} (h : ∀ ρ ps, g ρ = .ok ps → ps.length = n) : ∀ ρ ps, aCons f g ρ = .ok ps → ps.length = n + 1 := by
  intro ρ ps e
  unfold aCons at e
  revert e
  cases f ρ with
  | ok a =>
    rw [R.bind_ok]
    cases hg : g ρ with
    | ok qs =>
      intro e
      cases e
      rw [List.length_cons, h ρ qs hg]
    | exc c => exact fun e => nomatch e
    | stuck => exact fun e => nomatch e
  | exc c => exact fun e => nomatch e
  | stuck => exact fun e => nomatch e
theorem aNil_len : ∀ ρ ps, aNil ρ = .ok ps → ps.length = 0 := by
  intro ρ ps e
  cases e
  rfl
/-- the parts' lengths, read off the syntax -/
inductive ALen : (Rho → R (List PV)) → Nat → Prop where
  | nil : ALen aNil 0
  | cons {f : Rho → R PV} {g : Rho → R (List PV)} {n : Nat} : ALen g n → ALen (aCons f g) (n + 1)
theorem ALen.ok {g : Rho → R (List PV)} {n : Nat} (h : ALen g n) : ∀ ρ ps, g ρ = .ok ps → ps.length = n := by
  induction h with
  | nil => exact aNil_len
  | cons _ ih => exact aCons_len ih
theorem e_callD {x : Str} {k j n : Nat} {nw : Bool} {F : List PV → R PV} {pn : List Str} (h : Okd X.prog X.w X.K X.mg X.base x pn j n nw F) (hr : Room k X.A) (hjk : j ≤ k) (tk : L2N.Takes X W) (hg : Gl X x) (ha : AJ X W .s (e :: es) fA) (hal : ALen fA n) (hlen : n = es.length + 1 := by rfl) (hdb : (x == ("__debug__" : Str)) = false := by decide)
    (he : starEach (e :: es) X.env = (false, eval e X.env) :: starEach es X.env := by rfl) (hpl : (backTo pos (starEach es X.env)).any (·.1) = false := by rfl) : EJ X W (mdR nw) (.Call (.Name x p) (e :: es) [] pos) (eD F fA) := by
  obtain ⟨f, fd, h1, h2, h3, h4⟩ := h
  have q := e_call (p := p) (pos := pos) (dvs := []) (dps := []) (ds := []) h4 (hr.mono hjk) hg h1 h2 h3 .nil (fun _ _ => .nil) tk ha (by rw [hlen]; rfl) (by rw [← hlen]; exact hal.ok) hdb he hpl
  have e' : eD (fun ps => F (ps ++ [])) fA = eD F fA := by
    funext ρ
    unfold eD
    congr
    funext ps
    rw [List.append_nil]
  rw [e'] at q
  exact q
end
/-- the law's own promise: of the script -/
def spLaw (K : PySem.W.Frag) : Sp := fun vs H Q _ => ∃ (a : Addr) (ns : List Int), vs = [.ref a] ∧ SqL K H a (ns.map V.int) ∧ Only H ∧ ns.length ≤ 63 ∧ (∀ z ∈ ns, Builtin.Int.intBits z ≤ 1048576) ∧ ∀ v H', v = .bl true → Q v H'
theorem bits_log {z : Int} (h : Builtin.Int.intBits z ≤ 1048576) : z.natAbs.log2 < 1048577 := by
  unfold Builtin.Int.intBits at h
  split at h
  · rename_i e
    have e : z.natAbs = 0 := by simpa using e
    rw [e, Nat.log2_zero]; omega
  · omega
theorem cx_none {P : Program} {w : World} {H : Hp} {s : Shared} {e : Value} {s' : Shared} (h : L2N.CX P w [] H s (fun _ _ _ => False) e s') : False := by
  obtain ⟨_, _, _, _, _, _, _, _, _, _, _, _, z⟩ := h
  exact z
end PL
set_option Elab.async false
set_option linter.all false
set_option maxRecDepth 100000
set_option autoImplicit false
namespace PL
open PySem PySem.Spec L2
open PyProof.Rows hiding St
section
variable {X : Cx} {W : WX} {e a b c : Expr} {pos p : Pos} {f g : Rho → R PV} {es : List Expr} {fA : Rho → R (List PV)}
/-- a constant of the text's top -/
def GlI (mg : Str → Option Value) (x : Str) (i : Int) : Prop := ∃ t, mg x = some (.int i t)
theorem e_glI {x : Str} {i : Int} (h : GlI X.mg x i) (hg : Gl X x) (hd : (x == ("__debug__" : Str)) = false := by decide) : EJ X W .s (.Name x pos) (eC (.int i)) := by
  obtain ⟨t, h⟩ := h
  exact e_const (pe_glob hg h (v := .int i) ⟨t, rfl⟩ hd) fun _ _ _ => .int i
end
def NN (g : Rho → Out) : Prop := ∀ l ρ, g l ≠ .next ρ
theorem nn_e {f : Rho → R PV} {k : PV → Rho → Out} (h : ∀ p l ρ, k p l ≠ .next ρ) : NN (sE f k) := by
  intro l ρ e
  unfold sE at e
  revert e
  cases f l with
  | ok p => exact h p l ρ
  | exc c => exact fun e => nomatch e
  | stuck => exact fun e => nomatch e
theorem nn_ret (f : Rho → R PV) : NN (sRet f) := nn_e fun _ _ _ e => nomatch e
theorem nn_retO (i : Nat) : NN (sRetO i) := by
  intro l ρ e
  unfold sRetO at e
  split at e <;> cases e
theorem nn_seqL {g h : Rho → Out} (a : NN g) : NN (bSeq g h) := by
  intro l ρ e
  unfold bSeq at e
  have n := a l
  revert e n
  cases g l with
  | next ρ1 => exact fun _ n => absurd rfl (n ρ1)
  | _ => exact fun e => nomatch e
theorem nn_seqR {g h : Rho → Out} (a : NN h) : NN (bSeq g h) := by
  intro l ρ e
  unfold bSeq at e
  revert e
  cases g l with
  | next ρ1 => exact fun e => a ρ1 ρ e
  | _ => exact fun e => nomatch e
section
variable {K : PySem.W.Frag} {h : Heap} {mg : Str → Option Value}
theorem defE_mk (X : K.In h) (G : h.Ns mainGlobals mg) {x : Str} {st : Stmt} {ps : List Str} {f : Addr} {od an : Option Addr} {sl : Array (Option Value)} {oc kV dc pm cd ct : Value}
    (a : PySem.W.nsIn K mainGlobals x = some (some (.ref f))) (l : K.lookup f = some ⟨oc, od, .func (PySem.W.fnOf x x (defArgs st) (defBody st) (defScope st) .none kV dc pm an cd ct), sl⟩) (c : PySem.W.codeIn K cd x = true) (k : PySem.W.keepIn K (.ref f) = true)
    (hb : ∀ (kV doc pm : Value) (an : Option Addr) (cdv ct : Value) (us : List Value), us.length = ps.length → bindArgs (PySem.W.fnOf x x (defArgs st) (defBody st) (defScope st) .none kV doc pm an cdv ct) ⟨us, []⟩ = pure (ps.zip us)) : DefE K mg x st ps :=
  ⟨f, _, fun_mk l c k, PySem.W.mg_of X G a, (fun_mk l c k).binds hb⟩
theorem glI_mk (X : K.In h) (G : h.Ns mainGlobals mg) {x : Str} {i : Int} {t : Tok} (a : PySem.W.nsIn K mainGlobals x = some (some (.int i t))) : GlI mg x i := ⟨t, PySem.W.mg_of X G a⟩
theorem excE_mk (X : K.In h) (G : h.Ns mainGlobals mg) {x : Str} {C : Addr} (a : PySem.W.nsIn K mainGlobals x = some (some (.ref C))) (ex : PySem.W.excIn K C [.type "ValueError", .type "Exception", .type "BaseException", .type "object"] "ValueError.__new__" = true)
    (kp : PySem.W.keepIn K (.ref C) = true) (sb : PySem.W.subIn K (.ref C) (.type "BaseException") = some true) (ty : PySem.W.typeIn K (.ref C) = some (.type "type")) : ∃ C, ExcT K mg x C := ⟨C, PySem.W.mg_of X G a, ex, kp, sb, ty⟩
end
end PL
set_option Elab.async false
set_option linter.all false
set_option maxRecDepth 100000
set_option autoImplicit false
namespace PL
open PySem PySem.Spec L2
open PyProof.Rows hiding St
def isX (i : Nat) (a : Addr) (b : Bool) : Rho → R PV := fun ρ => match ρ[i]? with
  | some (.ex a') => if a' = a then .ok (.bl b) else .stuck
  | _ => .stuck
/-- the call of such a def -/
def hotC (i : Nat) (a : Addr) (F : Addr → R PV) : Rho → R PV := fun ρ => match ρ[i]? with
  | some (.ex a') => if a' = a then (match F a with
    | .ok p => .ok p
    | _ => .stuck) else .stuck
  | _ => .stuck
/-- behind the suite -/
def behindX (i : Nat) : Out → Out
  | .next ρ => .next (ρ.set i .un)
  | .brk ρ => .brk (ρ.set i .un)
  | .cont ρ => .cont (ρ.set i .un)
  | .ret p => .ret p
  | _ => .stuck
theorem takesN {X : Cx} : L2N.Takes X (fun _ _ _ _ => False) := fun _ _ x => by
  obtain ⟨_, _, _, _, _, _, _, _, _, _, _, _, _, _, _, _, z⟩ := x
  exact z.elim
end PL
set_option Elab.async false
set_option linter.all false
set_option maxRecDepth 100000
set_option autoImplicit false
namespace PL
open PySem PySem.Spec L2
open PyProof.Rows hiding St
def DefED (K : PySem.W.Frag) (mg : Str → Option Value) (x : Str) (st : Stmt) (ps : List Str) : Prop :=
  ∃ f fd ds, mg x = some (.ref f) ∧ FunD K x x (defArgs st) (defBody st) (defScope st) [.int 1] [] f fd ∧ L2.Binds K fd ps [] ∧ Vals [V.int 1] ds ∧ L2.Binds K fd ps ds
section
variable {P : Program} {w : World} {K : PySem.W.Frag} {mg : Str → Option Value} {base : Heap}
theorem defED_mk {h : Heap} (X : K.In h) (G : h.Ns mainGlobals mg) {x p q : Str} {st : Stmt} {f T : Addr} {od an td : Option Addr} {sl sl2 : Array (Option Value)} {oc kV dc pm cd ct tc : Value} {m : Nat} {t : Tok}
    (a : PySem.W.nsIn K mainGlobals x = some (some (.ref f))) (l : K.lookup f = some ⟨oc, od, .func (PySem.W.fnOf x x (defArgs st) (defBody st) (defScope st) (.ref T) kV dc pm an cd ct), sl⟩) (c : PySem.W.codeIn K cd x = true) (k : PySem.W.keepIn K (.ref f) = true)
    (lt : K.lookup T = some ⟨tc, td, .seq #[.int 1 t] m, sl2⟩)
    (h2 : ∀ (T : Addr) (kV doc pm : Value) (an : Option Addr) (cdv ct : Value) (us its : List Value), us.length = 2 → its.length = 1 → ∃ k, bindArgs (PySem.W.fnOf x x (defArgs st) (defBody st) (defScope st) (.ref T) kV doc pm an cdv ct) ⟨us, []⟩ = seqItems? (.ref T) >>= k ∧ k (some its.toArray) = pure ([p, q].zip (us ++ its.drop 1)))
    (h1 : ∀ (T : Addr) (kV doc pm : Value) (an : Option Addr) (cdv ct : Value) (us its : List Value), us.length = 1 → its.length = 1 → ∃ k, bindArgs (PySem.W.fnOf x x (defArgs st) (defBody st) (defScope st) (.ref T) kV doc pm an cdv ct) ⟨us, []⟩ = seqItems? (.ref T) >>= k ∧ k (some its.toArray) = pure ([p, q].zip (us ++ its.drop 0))) : DefED K mg x st [p, q] := by
  have F : FunD K x x (defArgs st) (defBody st) (defScope st) [.int 1] [] f (PySem.W.fnOf x x (defArgs st) (defBody st) (defScope st) (.ref T) kV dc pm an cd ct) :=
    ⟨⟨oc, od, _, kV, dc, pm, an, cd, ct, sl, rfl, l, c, .inr ⟨(fun z => nomatch z), T, _, [.int 1 t], m, rfl, lt, rfl, .cons ⟨t, rfl⟩ .nil⟩, .inl rfl⟩, k⟩
  obtain ⟨ds, v1, b1⟩ := F.binds1 1 0 (fun z => nomatch z) rfl h1
  obtain ⟨ds0, v0, b0⟩ := F.binds1 2 1 (fun z => nomatch z) rfl h2
  cases (show Vals [] ds0 from v0)
  exact ⟨f, _, ds, PySem.W.mg_of X G a, F, b0, v1, b1⟩
/-- called with the default -/
def OkD1 (P : Program) (w : World) (K : PySem.W.Frag) (mg : Str → Option Value) (base : Heap) (x : Str) (ps : List Str) (k n : Nat) (nw : Bool) (F : List PV → R PV) : Prop :=
  ∃ f fd ds, mg x = some (.ref f) ∧ PySem.W.keepIn K (.ref f) = true ∧ Vals [V.int 1] ds ∧ L2.Binds K fd ps ds ∧ FnOk P w K mg base (L2N.CX P w) k f fd ps (spF K mg n nw F)
theorem fn_mkD {x qual : Str} {st : Stmt} {f : Addr} {fd : FuncData} {dvs : List V} {N ps : List Str} {k n : Nat} {nw : Bool} {g : Rho → Out} (F : FunD K x qual (defArgs st) (defBody st) (defScope st) dvs [] f fd) (S : FnScope N ps (defScope st)) (hn : n = ps.length) (hnw : nw = true → ∀ l, ∀ ρ, g l ≠ .next ρ)
    (hbody : ∀ (cdv : Value) (A : Around) (outer : List PySem.Env) (s : Shared) (H : Hp) (E : XK), Room k (A.deeper (envOfC qual (defScope st) s.heap.objs.size f cdv)) →
      BJ (cxOf (L2N.CX P w) P w K mg base N qual (defScope st) f cdv A outer s H E) (fun cls d _ H => E cls d H) nw (defBody st) g) :
    FnOk P w K mg base (L2N.CX P w) (k + 1) f fd ps (spF K mg n nw (runF N.length g)) := by
  refine F.ok S (fun vs H Q E h => ?_) (fun cdv A outer s H vs Q E hr h => ?_)
  · obtain ⟨_, _, _, _, e, _⟩ := h
    rw [e, hn]
  · obtain ⟨qs, O, al, r, e, h⟩ := h
    refine ⟨_, hbody cdv A outer s H E hr, H, O, _, start_st al r, ?_⟩
    have h' : (match runF N.length g qs with
      | .ok p => ∀ v H', Same H H' → RepR K O nw H H' v p → Q v H'
      | .exc c => ∀ C H', Same H H' → mg c = some (.ref C) → E (.ref C) none H'
      | .stuck => False) := h
    unfold runF at h'
    revert h'
    cases hg : g (qs.map Slot.val ++ List.replicate (N.length - qs.length) Slot.un) with
    | ret p => exact fun h v H' s r => h v H' s r
    | next ρ' =>
      intro h σ' H' S' _
      cases nw with
      | false => exact h _ _ S'.same .non
      | true => exact absurd hg (hnw rfl _ _)
    | exc c ρ' => exact fun h C σ' H' e S' _ => h C H' S'.same e
    | brk ρ' => exact False.elim
    | cont ρ' => exact False.elim
    | stuck => exact False.elim
theorem def_okD {x : Str} {st : Stmt} {N ps : List Str} {k n : Nat} {nw : Bool} {g : Rho → Out} (T : DefED K mg x st ps) (S : FnScope N ps (defScope st)) (hn : n = ps.length) (hnw : nw = true → ∀ l, ∀ ρ, g l ≠ .next ρ)
    (hbody : ∀ (f : Addr) (cdv : Value) (A : Around) (outer : List PySem.Env) (s : Shared) (H : Hp) (E : XK), Room k (A.deeper (envOfC x (defScope st) s.heap.objs.size f cdv)) →
      BJ (cxOf (L2N.CX P w) P w K mg base N x (defScope st) f cdv A outer s H E) (fun cls d _ H => E cls d H) nw (defBody st) g) :
    Okd P w K mg base x ps (k + 1) n nw (runF N.length g) ∧ OkD1 P w K mg base x ps (k + 1) n nw (runF N.length g) := by
  obtain ⟨f, fd, ds, hm, F, b0, v1, b1⟩ := T
  have q := fn_mkD F S hn hnw (hbody f)
  exact ⟨⟨f, fd, hm, F.kp, b0, q⟩, f, fd, ds, hm, F.kp, v1, b1, q⟩
end
end PL
set_option Elab.async false
set_option linter.all false
set_option maxRecDepth 100000
set_option autoImplicit false
namespace PL
open PySem PySem.Spec L2
open PyProof.Rows hiding St
end PL
set_option Elab.async false
set_option linter.all false
set_option maxRecDepth 100000
set_option autoImplicit false
namespace PL
open PySem PySem.Spec L2
open PyProof.Rows hiding St
end PL
set_option Elab.async false
set_option linter.all false
set_option maxRecDepth 100000
set_option autoImplicit false
namespace PL
open PySem PySem.Spec L2
open PyProof.Rows hiding St
/-- an equation that is not taken for a computation -/
theorem nr {α : Sort _} {a b : α} (h : a = b) : a = b := h
section
variable {p q x y : PV} {ρ : Rho} {f g h : Rho → R PV} {i j : Nat} {a b c : Int} {k l : Bool} {ps qs : List PV} {s t : Slot}
@[simp] theorem eC_eq : eC p ρ = .ok p := nr rfl
@[simp] theorem eV0 : eV 0 (.val p :: ρ) = .ok p := nr rfl
@[simp] theorem eVs : eV (i + 1) (s :: ρ) = eV i ρ := by simp [eV]
@[simp] theorem eVo0 : eVo 0 (.val p :: ρ) = .ok p := nr rfl
@[simp] theorem eVo0' : eVo 0 (.own ps :: ρ) = .ok (.lst ps) := nr rfl
@[simp] theorem eVos : eVo (i + 1) (s :: ρ) = eVo i ρ := by simp [eVo]
@[simp] theorem bind1 {α β : Type} (a : α) (k : α → R β) : (R.ok a).bind k = k a := nr rfl
@[simp] theorem bind2 {α β : Type} (c : Str) (k : α → R β) : (R.exc c : R α).bind k = .exc c := nr rfl
@[simp] theorem bind3 {α β : Type} (k : α → R β) : (R.stuck : R α).bind k = .stuck := nr rfl
@[simp] theorem e2_eq {w : PV → PV → R PV} : e2 w f g ρ = (f ρ).bind fun x => (g ρ).bind fun y => w x y := nr rfl
@[simp] theorem e1_eq {w : PV → R PV} : e1 w f ρ = (f ρ).bind w := nr rfl
@[simp] theorem eD_eq {w : List PV → R PV} {fA : Rho → R (List PV)} : eD w fA ρ = (fA ρ).bind w := nr rfl
@[simp] theorem aNil_eq : aNil ρ = .ok [] := nr rfl
@[simp] theorem aCons_eq {fA : Rho → R (List PV)} : aCons f fA ρ = (f ρ).bind fun p => (fA ρ).bind fun ps => .ok (p :: ps) := nr rfl
@[simp] theorem tB1_eq : tB1 f ρ = (f ρ).bind asB := nr rfl
@[simp] theorem asB_eq : asB (.bl k) = .ok k := nr rfl
@[simp] theorem asI_eq : asI (.int a) = .ok a := nr rfl
@[simp] theorem tNt_eq {u : Rho → R Bool} : tNt u ρ = (u ρ).bind fun b => .ok (!b) := nr rfl
@[simp] theorem tAn_eq {u v : Rho → R Bool} : tAn u v ρ = (u ρ).bind fun b => if b = true then v ρ else .ok false := nr rfl
@[simp] theorem tOr_eq {u v : Rho → R Bool} : tOr' u v ρ = (u ρ).bind fun b => if b = true then .ok true else v ρ := nr rfl
@[simp] theorem eAn_eq : eAn f g ρ = (f ρ).bind fun p => (asB p).bind fun b => if b = true then g ρ else .ok (.bl false) := nr rfl
@[simp] theorem eOr_eq : eOr f g ρ = (f ρ).bind fun p => (asB p).bind fun b => if b = true then .ok (.bl true) else g ρ := nr rfl
@[simp] theorem notP_eq : notP (.bl k) = .ok (.bl (!k)) := nr rfl
@[simp] theorem negP_eq : negP (.int a) = .ok (.int (-a)) := nr rfl
@[simp] theorem eIf_eq {u : Rho → R Bool} : eIf u f g ρ = (u ρ).bind fun b => if b = true then f ρ else g ρ := nr rfl
@[simp] theorem eChain_eq {w1 w2 : PV → PV → R PV} : eChain w1 w2 f g h ρ = (f ρ).bind fun x => (g ρ).bind fun y => (w1 x y).bind fun z => (asB z).bind fun k => if k = true then (h ρ).bind fun w => w2 y w else .ok (.bl false) := nr rfl
@[simp] theorem addP_ii : addP (.int a) (.int b) = .ok (.int (a + b)) := nr rfl
@[simp] theorem iadd_ii : intP (fun _ _ => true) (fun a b => PV.int (a + b)) (.int a) (.int b) = .ok (.int (a + b)) := nr rfl
@[simp] theorem subP_ii : subP (.int a) (.int b) = .ok (.int (a - b)) := nr rfl
@[simp] theorem ltP_ii : ltP (.int a) (.int b) = .ok (.bl (decide (a < b))) := nr rfl
@[simp] theorem leP_ii : leP (.int a) (.int b) = .ok (.bl (decide (a ≤ b))) := nr rfl
@[simp] theorem gtP_ii : gtP (.int a) (.int b) = .ok (.bl (decide (b < a))) := nr rfl
@[simp] theorem geP_ii : geP (.int a) (.int b) = .ok (.bl (decide (b ≤ a))) := nr rfl
theorem mulP_ii (h : okMul a b = true) : mulP (.int a) (.int b) = .ok (.int (a * b)) := by
  show (if okMul a b = true then _ else _) = _
  rw [if_pos h]
theorem modP_ii (h : b ≠ 0) : modP (.int a) (.int b) = .ok (.int (a.fmod b)) := by
  show (if decide (b ≠ 0) = true then _ else _) = _
  rw [if_pos (decide_eq_true h)]
theorem modP_pos (h : 0 < b) : modP (.int a) (.int b) = .ok (.int (a % b)) := by
  rw [modP_ii (by omega), Int.fmod_eq_emod_of_nonneg a (by omega)]
theorem log2_lt {n m : Nat} (h : n < 2 ^ m) (hm : 0 < m) : n.log2 < m := by
  by_cases h0 : n = 0
  · subst h0; simpa using hm
  · exact (Nat.log2_lt h0).mpr h
theorem fdivP_ii (h : b ≠ 0) (h2 : b.natAbs < 2 ^ 9000) : fdivP (.int a) (.int b) = .ok (.int (a.fdiv b)) := by
  show (if okDiv a b = true then _ else _) = _
  have h3 : b.natAbs.log2 < 9000 := log2_lt h2 (by omega)
  rw [if_pos]
  show (decide (b ≠ 0) && decide (b.natAbs.log2 < 9000)) = true
  rw [decide_eq_true h, decide_eq_true h3] <;> rfl
theorem divmodP_pos (h : 0 < b) (h2 : b < 2 ^ 9000) : divmodP [.int a, .int b] = .ok (.tup [.int (a / b), .int (a % b)]) := by
  unfold divmodP
  dsimp only
  have h3 : b.natAbs.log2 < 9000 := log2_lt (by omega) (by omega)
  rw [if_pos ⟨h, h3⟩]
theorem okMul_of {m n : Nat} (ha : a.natAbs < 2 ^ m) (hb : b.natAbs < 2 ^ n) (h : m + n ≤ 100000000) (hm : 0 < m) (hn : 0 < n) : okMul a b = true := by
  have h1 := log2_lt ha hm
  have h2 := log2_lt hb hn
  exact decide_eq_true (by omega)
theorem powP_ii (h0 : 0 ≤ b) (h1 : b ≤ 1000000) (h2 : a.natAbs < 2 ^ 64) : powP (.int a) (.int b) = .ok (.int (a ^ b.toNat)) := by
  show (if okPow a b = true then _ else _) = _
  rw [if_pos]
  show (decide (0 ≤ b) && decide (b ≤ 1000000) && decide (a.natAbs < 2 ^ 64)) = true
  rw [decide_eq_true h0, decide_eq_true h1, decide_eq_true h2] <;> rfl
/-- what may be compared -/
@[simp] theorem okD_int {n : Nat} : okD n (.int a) = true := by cases n <;> rfl
@[simp] theorem okD_bl {n : Nat} : okD n (.bl k) = true := by cases n <;> rfl
@[simp] theorem okD_non {n : Nat} : okD n .non = true := by cases n <;> rfl
@[simp] theorem okD_lst {n : Nat} : okD (n + 1) (.lst ps) = ps.all (okD n) := nr rfl
@[simp] theorem okD_tup {n : Nat} : okD (n + 1) (.tup ps) = ps.all (okD n) := nr rfl
@[simp] theorem okD_frz {n : Nat} : okD (n + 1) (.frz ps) = ps.all (okD n) := nr rfl
@[simp] theorem okD_str {n : Nat} {z : Str} : okD n (.str z) = PyData.strOk z := by cases n <;> rfl
@[simp] theorem eqV_ii : eqV' (.int a) (.int b) = (a == b) := by simp only [eqV']
@[simp] theorem eqV_bb : eqV' (.bl k) (.bl l) = (k == l) := by simp only [eqV']
@[simp] theorem eqV_ss {u v : Str} : eqV' (.str u) (.str v) = (u == v) := by simp only [eqV']
@[simp] theorem eqV_ll : eqV' (.lst ps) (.lst qs) = eqVs ps qs := by simp only [eqV']
@[simp] theorem eqV_tt : eqV' (.tup ps) (.tup qs) = eqVs ps qs := by simp only [eqV']
@[simp] theorem eqVs_nn : eqVs [] [] = true := by simp only [eqVs]
@[simp] theorem eqVs_cc : eqVs (p :: ps) (q :: qs) = (eqV' p q && eqVs ps qs) := by simp only [eqVs]
@[simp] theorem eqVs_cn : eqVs (p :: ps) [] = false := by simp only [eqVs]
@[simp] theorem eqVs_nc : eqVs [] (q :: qs) = false := by simp only [eqVs]
theorem eqP_ok (h : okD 30 p = true) (h2 : okD 30 q = true) : eqP p q = .ok (.bl (eqV' p q)) := by
  unfold eqP; rw [h, h2, Bool.and_self, if_pos rfl]
theorem neP_ok (h : okD 30 p = true) (h2 : okD 30 q = true) : neP p q = .ok (.bl (!eqV' p q)) := by
  unfold neP; rw [h, h2, Bool.and_self, if_pos rfl]
@[simp] theorem eqP_ii : eqP (.int a) (.int b) = .ok (.bl (a == b)) := by rw [eqP_ok okD_int okD_int, eqV_ii]
@[simp] theorem neP_ii : neP (.int a) (.int b) = .ok (.bl (!(a == b))) := by rw [neP_ok okD_int okD_int, eqV_ii]
@[simp] theorem eqP_bb : eqP (.bl k) (.bl l) = .ok (.bl (k == l)) := by rw [eqP_ok okD_bl okD_bl, eqV_bb]
@[simp] theorem neP_bb : neP (.bl k) (.bl l) = .ok (.bl (!(k == l))) := by rw [neP_ok okD_bl okD_bl, eqV_bb]
/-- kinds -/
@[simp] theorem isi_ii : isiP "int" (.int a) = .ok (.bl true) := by have e : kitB "int" "int" = some true := by decide +kernel
                                                                    unfold isiP tyN; rw [e]
@[simp] theorem isi_ib : isiP "int" (.bl k) = .ok (.bl true) := by have e : kitB "bool" "int" = some true := by decide +kernel
                                                                   unfold isiP tyN; rw [e]
@[simp] theorem isi_in : isiP "int" .non = .ok (.bl false) := by have e : kitB "NoneType" "int" = some false := by decide +kernel
                                                                 unfold isiP tyN; rw [e]
@[simp] theorem isi_is {z : Str} : isiP "int" (.str z) = .ok (.bl false) := by have e : kitB "str" "int" = some false := by decide +kernel
                                                                               unfold isiP tyN; rw [e]
@[simp] theorem isi_it : isiP "int" (.tup ps) = .ok (.bl false) := by have e : kitB "tuple" "int" = some false := by decide +kernel
                                                                      unfold isiP tyN; rw [e]
@[simp] theorem isi_il : isiP "int" (.lst ps) = .ok (.bl false) := by have e : kitB "list" "int" = some false := by decide +kernel
                                                                      unfold isiP tyN; rw [e]
@[simp] theorem isi_if : isiP "int" (.frz ps) = .ok (.bl false) := by have e : kitB "list" "int" = some false := by decide +kernel
                                                                      unfold isiP tyN; rw [e]
@[simp] theorem isi_id : isiP "int" .dct = .ok (.bl false) := by have e : kitB "dict" "int" = some false := by decide +kernel
                                                                 unfold isiP tyN; rw [e]
@[simp] theorem isi_bi : isiP "bool" (.int a) = .ok (.bl false) := by have e : kitB "int" "bool" = some false := by decide +kernel
                                                                      unfold isiP tyN; rw [e]
@[simp] theorem isi_bb : isiP "bool" (.bl k) = .ok (.bl true) := by have e : kitB "bool" "bool" = some true := by decide +kernel
                                                                    unfold isiP tyN; rw [e]
def isT : PV → Bool
  | .tup _ => true
  | _ => false
def isL : PV → Bool
  | .lst _ | .frz _ => true
  | _ => false
theorem isi_tuple : isiP "tuple" p = .ok (.bl (isT p)) := by
  have e1 : kitB "NoneType" "tuple" = some false := by decide +kernel
  have e2 : kitB "bool" "tuple" = some false := by decide +kernel
  have e3 : kitB "int" "tuple" = some false := by decide +kernel
  have e4 : kitB "str" "tuple" = some false := by decide +kernel
  have e5 : kitB "tuple" "tuple" = some true := by decide +kernel
  have e6 : kitB "list" "tuple" = some false := by decide +kernel
  have e7 : kitB "dict" "tuple" = some false := by decide +kernel
  cases p <;> simp [isiP, tyN, e1, e2, e3, e4, e5, e6, e7, isT]
theorem isi_list : isiP "list" p = .ok (.bl (isL p)) := by
  have e1 : kitB "NoneType" "list" = some false := by decide +kernel
  have e2 : kitB "bool" "list" = some false := by decide +kernel
  have e3 : kitB "int" "list" = some false := by decide +kernel
  have e4 : kitB "str" "list" = some false := by decide +kernel
  have e5 : kitB "tuple" "list" = some false := by decide +kernel
  have e6 : kitB "list" "list" = some true := by decide +kernel
  have e7 : kitB "dict" "list" = some false := by decide +kernel
  cases p <;> simp [isiP, tyN, e1, e2, e3, e4, e5, e6, e7, isL]
def isB : PV → Bool
  | .bl _ => true
  | _ => false
theorem isi_bool : isiP "bool" p = .ok (.bl (isB p)) := by
  have e1 : kitB "NoneType" "bool" = some false := by decide +kernel
  have e2 : kitB "bool" "bool" = some true := by decide +kernel
  have e3 : kitB "int" "bool" = some false := by decide +kernel
  have e4 : kitB "str" "bool" = some false := by decide +kernel
  have e5 : kitB "tuple" "bool" = some false := by decide +kernel
  have e6 : kitB "list" "bool" = some false := by decide +kernel
  have e7 : kitB "dict" "bool" = some false := by decide +kernel
  cases p <;> simp [isiP, tyN, e1, e2, e3, e4, e5, e6, e7, isB]
/-- whole numbers -/
def isW : PV → Bool
  | .int _ => true
  | _ => false
/-- the body of is_whole, of the laws' own -/
@[simp] theorem isW_int (a : Int) : isW (.int a) = true := rfl
theorem whole_eq : (isiP "int" p).bind (fun x => (asB x).bind fun b => if b = true then (isiP "bool" p).bind notP else .ok (.bl false)) = .ok (.bl (isW p)) := by
  rw [isi_bool]
  cases p <;> simp [isW, isB]
/-- statements -/
@[simp] theorem then_next {k : Rho → Out} : (Out.next ρ).then k = k ρ := nr rfl
@[simp] theorem then_ret {k : Rho → Out} : (Out.ret p).then k = .ret p := nr rfl
@[simp] theorem then_exc {k : Rho → Out} {z : Str} : (Out.exc z ρ).then k = .exc z ρ := nr rfl
@[simp] theorem then_stuck {k : Rho → Out} : Out.stuck.then k = .stuck := nr rfl
@[simp] theorem then_brk {k : Rho → Out} : (Out.brk ρ).then k = .brk ρ := nr rfl
@[simp] theorem then_cont {k : Rho → Out} : (Out.cont ρ).then k = .cont ρ := nr rfl
@[simp] theorem bNil_eq : bNil ρ = .next ρ := nr rfl
@[simp] theorem bSeq_eq {u v : Rho → Out} : bSeq u v ρ = (u ρ).then v := nr rfl
/-- an expression's end within a statement -/
def R.st (r : R PV) (ρ : Rho) (k : PV → Out) : Out := match r with
  | .ok p => k p
  | .exc c => .exc c ρ
  | .stuck => .stuck
@[simp] theorem st_ok {k : PV → Out} : (R.ok p).st ρ k = k p := nr rfl
@[simp] theorem st_exc {k : PV → Out} {z : Str} : (R.exc z).st ρ k = .exc z ρ := nr rfl
@[simp] theorem st_stuck {k : PV → Out} : (R.stuck : R PV).st ρ k = .stuck := nr rfl
@[simp] theorem sE_eq {k : PV → Rho → Out} : sE f k ρ = (f ρ).st ρ fun p => k p ρ := nr rfl
@[simp] theorem sSet_eq : sSet i f ρ = (f ρ).st ρ fun p => .next (ρ.set i (.val p)) := nr rfl
@[simp] theorem sRet_eq : sRet f ρ = (f ρ).st ρ fun p => .ret p := nr rfl
@[simp] theorem sDrop_eq : sDrop f ρ = (f ρ).st ρ fun _ => .next ρ := nr rfl
@[simp] theorem sRaise_eq {z : Str} : sRaise z ρ = .exc z ρ := nr rfl
@[simp] theorem sPass_eq : sPass ρ = .next ρ := nr rfl
@[simp] theorem sTo_eq {w : PV → Rho → Option Rho} : sTo w f ρ = (f ρ).st ρ fun p => match w p ρ with | some ρ' => .next ρ' | none => .stuck := nr rfl
def R.stB (r : R Bool) (ρ : Rho) (k : Bool → Out) : Out := match r with
  | .ok p => k p
  | .exc c => .exc c ρ
  | .stuck => .stuck
@[simp] theorem stB_ok {k : Bool → Out} {b : Bool} : (R.ok b).stB ρ k = k b := nr rfl
@[simp] theorem stB_exc {k : Bool → Out} {z : Str} : (R.exc z).stB ρ k = .exc z ρ := nr rfl
@[simp] theorem stB_stuck {k : Bool → Out} : (R.stuck : R Bool).stB ρ k = .stuck := nr rfl
@[simp] theorem sIf_eq {u : Rho → R Bool} {v w : Rho → Out} : sIf u v w ρ = (u ρ).stB ρ fun b => if b = true then v ρ else w ρ := by
  unfold sIf R.stB
  cases u ρ with
  | ok b => cases b <;> simp
  | exc c => rfl
  | stuck => rfl
def Out.res (o : Out) : R PV := match o with
  | .ret p => .ok p
  | .next _ => .ok .non
  | .exc c _ => .exc c
  | _ => .stuck
@[simp] theorem res_ret : (Out.ret p).res = .ok p := nr rfl
@[simp] theorem res_next : (Out.next ρ).res = .ok .non := nr rfl
@[simp] theorem res_exc {z : Str} : (Out.exc z ρ).res = .exc z := nr rfl
theorem runF_eq {n : Nat} {u : Rho → Out} : runF n u ps = (u (ps.map Slot.val ++ List.replicate (n - ps.length) Slot.un)).res := rfl
@[simp] theorem gN_eq : gN i p ρ = some (ρ.set i (.val p)) := nr rfl
@[simp] theorem gT_eql {w : List PV → Rho → Option Rho} : gT w (.lst ps) ρ = w ps ρ := nr rfl
@[simp] theorem gT_eq {w : List PV → Rho → Option Rho} : gT w (.tup ps) ρ = w ps ρ := nr rfl
@[simp] theorem gsNil_eq : gsNil [] ρ = some ρ := nr rfl
@[simp] theorem gsCons_eq {u : PV → Rho → Option Rho} {w : List PV → Rho → Option Rho} : gsCons u w (p :: ps) ρ = (u p ρ).bind (w ps) := nr rfl
@[simp] theorem sAug0 {w : PV → PV → R PV} : sAug i w f ρ = (match ρ[i]? with
  | some (.val x) => ((f ρ).bind fun y => w x y).st ρ fun z => .next (ρ.set i (.val z))
  | _ => .stuck) := nr rfl
@[simp] theorem lenP_l : lenP [.lst ps] = .ok (.int ps.length) := nr rfl
@[simp] theorem lenP_t : lenP [.tup ps] = .ok (.int ps.length) := nr rfl
@[simp] theorem lenP_f : lenP [.frz ps] = .ok (.int ps.length) := nr rfl
theorem size_ok {n : Nat} (h : n ≤ 1000000) : n ≤ sizeLine := by rw [sizeLine_eq]; omega
theorem lstP_ok (h : ps.length ≤ 1000000) : lstP ps = .ok (.lst ps) := by unfold lstP; rw [if_pos (size_ok h)]
theorem tupP_ok (h : ps.length ≤ 1000000) : tupP ps = .ok (.tup ps) := by unfold tupP; rw [if_pos (size_ok h)]
@[simp] theorem lstP0 : lstP [] = .ok (.lst []) := lstP_ok (by simp)
@[simp] theorem tupP0 : tupP [] = .ok (.tup []) := tupP_ok (by simp)
@[simp] theorem tupP1 : tupP [p] = .ok (.tup [p]) := tupP_ok (by simp)
@[simp] theorem tupP2 : tupP [p, q] = .ok (.tup [p, q]) := tupP_ok (by simp)
@[simp] theorem tupP3 : tupP [p, q, x] = .ok (.tup [p, q, x]) := tupP_ok (by simp)
@[simp] theorem lstP1 : lstP [p] = .ok (.lst [p]) := lstP_ok (by simp)
@[simp] theorem lstP2 : lstP [p, q] = .ok (.lst [p, q]) := lstP_ok (by simp)
@[simp] theorem lstP3 : lstP [p, q, x] = .ok (.lst [p, q, x]) := lstP_ok (by simp)
@[simp] theorem lstP4 : lstP [p, q, x, y] = .ok (.lst [p, q, x, y]) := lstP_ok (by simp)
/-- places -/
theorem atI_at {α : Type} {l : List α} (h0 : 0 ≤ a) : atI l a = l[a.toNat]? := by
  unfold atI ixN
  rw [if_pos h0]
  by_cases h : a < l.length
  · rw [if_pos h]; rfl
  · rw [if_neg h, List.getElem?_eq_none (by omega)]; rfl
theorem ixP_lst (h0 : 0 ≤ a) (h : ps[a.toNat]? = some p) : ixP (.lst ps) (.int a) = .ok p := by unfold ixP; dsimp only; rw [atI_at h0, h]
theorem ixP_tup (h0 : 0 ≤ a) (h : ps[a.toNat]? = some p) : ixP (.tup ps) (.int a) = .ok p := by unfold ixP; dsimp only; rw [atI_at h0, h]
theorem ixP_frz (h0 : 0 ≤ a) (h : ps[a.toNat]? = some p) : ixP (.frz ps) (.int a) = .ok p := by unfold ixP; dsimp only; rw [atI_at h0, h]
@[simp] theorem ixP_t0 : ixP (.tup (p :: ps)) (.int 0) = .ok p := ixP_tup (by omega) rfl
@[simp] theorem ixP_t1 : ixP (.tup (p :: q :: ps)) (.int 1) = .ok q := ixP_tup (by omega) rfl
@[simp] theorem ixP_t2 : ixP (.tup (p :: q :: x :: ps)) (.int 2) = .ok x := ixP_tup (by omega) rfl
@[simp] theorem ixP_l0 : ixP (.lst (p :: ps)) (.int 0) = .ok p := ixP_lst (by omega) rfl
@[simp] theorem ixP_l1 : ixP (.lst (p :: q :: ps)) (.int 1) = .ok q := ixP_lst (by omega) rfl
@[simp] theorem ixP_l2 : ixP (.lst (p :: q :: x :: ps)) (.int 2) = .ok x := ixP_lst (by omega) rfl
end
/-- one turn -/
def turnL (tgt : PV → Rho → Option Rho) (body : Rho → Out) (p : PV) (ρ : Rho) : Out := match tgt p ρ with
  | none => .stuck
  | some ρ1 => body ρ1
theorem forL_inv {tgt : PV → Rho → Option Rho} {body : Rho → Out} (I : Nat → Rho → Prop) : ∀ (items : List PV) (k : Nat) (ρ : Rho), I k ρ →
    (∀ j p ρ, items[j]? = some p → I (k + j) ρ → ∃ ρ', (turnL tgt body p ρ = .next ρ' ∨ turnL tgt body p ρ = .cont ρ') ∧ I (k + j + 1) ρ') → ∃ ρ', forL tgt body items ρ = .next ρ' ∧ I (k + items.length) ρ' := by
  intro items
  induction items with
  | nil => intro k ρ h _; exact ⟨ρ, rfl, h⟩
  | cons p ps ih =>
    intro k ρ h hs
    obtain ⟨ρ1, h1, h2⟩ := hs 0 p ρ rfl h
    obtain ⟨ρ2, h3, h4⟩ := ih (k + 1) ρ1 h2 fun j q ρ' hj hI => by
      have := hs (j + 1) q ρ' (by simpa using hj) (by rw [show k + (j + 1) = k + 1 + j by omega]; exact hI)
      rw [show k + 1 + j + 1 = k + (j + 1) + 1 by omega]
      exact this
    refine ⟨ρ2, ?_, by rw [List.length_cons, show k + (ps.length + 1) = k + 1 + ps.length by omega]; exact h4⟩
    unfold turnL at h1
    unfold forL
    revert h1
    cases tgt p ρ with
    | none => exact fun h1 => by rcases h1 with h1 | h1 <;> cases h1
    | some ρ1' =>
      dsimp only
      intro h1
      rcases h1 with h1 | h1 <;> (rw [h1]; exact h3)
/-- over a range -/
theorem forL_rng {tgt : PV → Rho → Option Rho} {body : Rho → Out} (I : Nat → Rho → Prop) (lo : Int) (n : Nat) (ρ : Rho) (h0 : I 0 ρ)
    (hs : ∀ (j : Nat) ρ, j < n → I j ρ → ∃ ρ', (turnL tgt body (.int (lo + j)) ρ = .next ρ' ∨ turnL tgt body (.int (lo + j)) ρ = .cont ρ') ∧ I (j + 1) ρ') : ∃ ρ', forL tgt body (rngL lo n) ρ = .next ρ' ∧ I n ρ' := by
  obtain ⟨ρ', h1, h2⟩ := forL_inv I (rngL lo n) 0 ρ h0 fun j p ρ hj hI => by
    unfold rngL at hj
    rw [List.getElem?_map] at hj
    cases hn : (List.range n)[j]? with
    | none => rw [hn] at hj; cases hj
    | some m =>
      rw [hn] at hj
      obtain ⟨g1, g2⟩ := List.getElem?_eq_some_iff.mp hn
      rw [List.getElem_range] at g2
      subst g2
      cases hj
      rw [List.length_range] at g1
      rw [Nat.zero_add] at hI ⊢
      exact hs j ρ g1 hI
  rw [rngL_len, Nat.zero_add] at h2
  exact ⟨ρ', h1, h2⟩
def R.stL (r : R (List PV)) (ρ : Rho) (k : List PV → Out) : Out := match r with
  | .ok p => k p
  | .exc c => .exc c ρ
  | .stuck => .stuck
@[simp] theorem stL_ok {k : List PV → Out} {l : List PV} {ρ : Rho} : (R.ok l).stL ρ k = k l := nr rfl
@[simp] theorem sFor_eq {it : Rho → R (List PV)} {tgt : PV → Rho → Option Rho} {body : Rho → Out} {ρ : Rho} : sFor it tgt body ρ = (it ρ).stL ρ fun items => forL tgt body items ρ := nr rfl
@[simp] theorem iR_eq {g : List PV → R (List PV)} {f : Rho → R (List PV)} {ρ : Rho} : iR g f ρ = (f ρ).bind g := nr rfl
@[simp] theorem iS_eq {f : Rho → R PV} {ρ : Rho} : iS f ρ = (f ρ).bind asS := nr rfl
@[simp] theorem iRv_eq {f : Rho → R PV} {ρ : Rho} : iRv f ρ = (f ρ).bind fun p => (asS p).bind fun l => .ok l.reverse := nr rfl
@[simp] theorem asS_l {l : List PV} : asS (.lst l) = .ok l := nr rfl
@[simp] theorem asS_t {l : List PV} : asS (.tup l) = .ok l := nr rfl
@[simp] theorem asS_f {l : List PV} : asS (.frz l) = .ok l := nr rfl
theorem inR_of {a : Int} (h1 : -1000000000000 ≤ a) (h2 : a ≤ 1000000000000) : inR a = true := inR_iff.mpr ⟨by omega, by omega⟩
theorem rng1_sm {a : Int} (h1 : -1000000000000 ≤ a) (h2 : a ≤ 1000000000000) : rng1 [.int a] = .ok (rngL 0 a.toNat) := by
  unfold rng1; dsimp only; rw [if_pos (inR_of h1 h2)]
theorem rng2_sm {a b : Int} (h1 : -1000000000000 ≤ a) (h2 : a ≤ 1000000000000) (h3 : -1000000000000 ≤ b) (h4 : b ≤ 1000000000000) : rng2 [.int a, .int b] = .ok (rngL a (b - a).toNat) := nr rfl
theorem rng3_sm {a b : Int} (h1 : -1000000000000 ≤ a) (h2 : a ≤ 1000000000000) (h3 : -1000000000000 ≤ b) (h4 : b ≤ 1000000000000) : rng3 [.int a, .int b, .int (-1)] = .ok (rngDn a (a - b).toNat) := by
  unfold rng3; dsimp only; rw [inR_of h1 h2, inR_of h3 h4, Bool.and_self, decide_eq_true rfl, Bool.and_self, if_pos rfl]
theorem lcGo_map {tgt : PV → Rho → Option Rho} {elt : Rho → R PV} {ρ : Rho} (φ : PV → PV) : ∀ (items : List PV), (∀ p ∈ items, ∃ ρ', tgt p ρ = some ρ' ∧ elt ρ' = .ok (φ p)) → lcGo tgt cYes elt ρ items = .ok (items.map φ)
  | [], _ => rfl
  | p :: ps, h => by
    obtain ⟨ρ', h1, h2⟩ := h p List.mem_cons_self
    have ih := lcGo_map φ ps fun q hq => h q (List.mem_cons_of_mem _ hq)
    unfold lcGo
    rw [h1]
    dsimp only [cYes]
    rw [h2]
    dsimp only
    rw [ih]
    rfl
theorem eLc_ok {vs : List Nat} {it : Rho → R (List PV)} {tgt : PV → Rho → Option Rho} {test : Rho → R Bool} {elt : Rho → R PV} {ρ : Rho} {items qs : List PV} (h1 : vs.all (notOwn ρ) = true) (h2 : it ρ = .ok items) (h3 : items.length ≤ 1000000) (h4 : lcGo tgt test elt (wipeR ρ vs) items = .ok qs) : eLc vs it tgt test elt ρ = .ok (.lst qs) := by
  unfold eLc
  rw [if_pos h1, h2, bind1, if_pos (size_ok h3), h4]
end PL
namespace PL
open PySem PySem.Spec L2
open PyProof.Rows hiding St
section
variable {a b : Int} {p : PV} {ps : List PV}
theorem fdivP_sm (h : 0 < b) (h2 : b ≤ 1000000000000000000000000000000000000000000000000000000000000) : fdivP (.int a) (.int b) = .ok (.int (a / b)) := fdivP_ii (by omega) (by omega) |>.trans (by rw [Int.fdiv_eq_ediv_of_nonneg a (by omega)])
theorem mulP_sm (h : -1000000000000000000000000000000000000000000000000000000000000 ≤ a) (h2 : a ≤ 1000000000000000000000000000000000000000000000000000000000000) (h3 : -1000000000000000000000000000000000000000000000000000000000000 ≤ b) (h4 : b ≤ 1000000000000000000000000000000000000000000000000000000000000) : mulP (.int a) (.int b) = .ok (.int (a * b)) :=
  mulP_ii (okMul_of (m := 250) (n := 250) (by omega) (by omega) (by omega) (by omega) (by omega))
theorem powP_sm (h0 : 0 ≤ b) (h1 : b ≤ 1000000) (h2 : -1000000 ≤ a) (h3 : a ≤ 1000000) : powP (.int a) (.int b) = .ok (.int (a ^ b.toNat)) := powP_ii h0 h1 (by omega)
/-- the item at a place, 0 beyond -/
def nth (l : List Int) (a : Int) : Int := l.getD a.toNat 0
theorem nth_mem {l : List Int} (h0 : 0 ≤ a) (h : a < l.length) : nth l a ∈ l := by
  unfold nth
  rw [List.getD_eq_getElem?_getD, List.getElem?_eq_getElem (by omega)]
  exact List.getElem_mem _
theorem getD_map (ns : List Int) (k : Nat) (h : k < ns.length) : (ns.map PV.int)[k]? = some (.int (ns.getD k 0)) := by
  rw [List.getElem?_map, List.getElem?_eq_getElem h, List.getD_eq_getElem?_getD, List.getElem?_eq_getElem h]
  rfl
/-- an item of a written list of ints -/
theorem ixP_ints {ns : List Int} (h0 : 0 ≤ a) (h : a < ns.length) : ixP (.lst (ns.map PV.int)) (.int a) = .ok (.int (nth ns a)) := ixP_lst h0 (getD_map ns _ (by omega))
theorem ixP_intsF {ns : List Int} (h0 : 0 ≤ a) (h : a < ns.length) : ixP (.frz (ns.map PV.int)) (.int a) = .ok (.int (nth ns a)) := ixP_frz h0 (getD_map ns _ (by omega))
end
end PL
namespace PL
open PySem PySem.Spec L2
open PyProof.Rows hiding St
end PL
namespace PL
open PySem PySem.Spec L2
open PyProof.Rows hiding St
theorem set_self {ρ : Rho} {i : Nat} {s : Slot} (h : ρ[i]? = some s) : ρ.set i s = ρ := by
  refine List.ext_getElem? fun j => ?_
  by_cases e : i = j
  · subst e; rw [List.getElem?_set_self (List.getElem?_eq_some_iff.mp h).1, h]
  · rw [List.getElem?_set_ne e]
theorem eVo_of {ρ : Rho} {i : Nat} {p : PV} (h : ρ[i]? = some (.val p)) : eVo i ρ = .ok p := by unfold eVo; rw [h]
theorem pow_bound {a : Int} {m : Nat} (h : a.natAbs < 2 ^ m) : ∀ n : Nat, (a ^ n).natAbs < 2 ^ (m * n + 1)
  | 0 => by simp
  | n + 1 => by
    have ih := pow_bound h n
    rw [Int.pow_succ, Int.natAbs_mul, Nat.mul_succ, show m * n + m + 1 = (m * n + 1) + m by omega, Nat.pow_add]
    exact Nat.mul_lt_mul'' ih h
theorem mul_bound {a b : Int} {m n : Nat} (h : a.natAbs < 2 ^ m) (g : b.natAbs < 2 ^ n) : (a * b).natAbs < 2 ^ (m + n) := by
  rw [Int.natAbs_mul, Nat.pow_add]
  exact Nat.mul_lt_mul'' h g
/-- the turn's name behind a loop over range(n) -/
def lastS (ρ : Rho) (a n : Nat) : Slot := if n = 0 then ρ.getD a .un else .val (.int ((n : Int) - 1))
theorem lastS_succ (ρ : Rho) (a n : Nat) : lastS ρ a (n + 1) = .val (.int (0 + n)) := by
  unfold lastS
  rw [if_neg (by omega)]
  congr 2
  omega
/-- for k in range(n): x = x * y -/
theorem mul_loop {i j a : Nat} {ρ : Rho} {x y : Int} (n : Nat) (hi : ρ[i]? = some (.val (.int x))) (hj : ρ[j]? = some (.val (.int y))) (ij : i ≠ j) (aj : a ≠ j) (ai : a ≠ i) (ha : a < ρ.length) (hx : x.natAbs < 2 ^ 200) (hy : y.natAbs < 2 ^ 60) (hn : n ≤ 10000) :
    forL (gN a) (bSeq (sSet i (e2 mulP (eVo i) (eVo j))) bNil) (rngL 0 n) ρ = .next ((ρ.set i (.val (.int (x * y ^ n)))).set a (lastS ρ a n)) := by
  have hil : i < ρ.length := (List.getElem?_eq_some_iff.mp hi).1
  obtain ⟨ρ', e1, rfl⟩ := forL_rng (tgt := gN a) (body := bSeq (sSet i (e2 mulP (eVo i) (eVo j))) bNil) (fun k ρ' => ρ' = (ρ.set i (.val (.int (x * y ^ k)))).set a (lastS ρ a k)) 0 n ρ (by
    unfold lastS
    rw [Int.pow_zero, Int.mul_one, set_self hi, if_pos rfl, List.getD_eq_getElem?_getD, List.getElem?_eq_getElem ha]
    exact (set_self (List.getElem?_eq_getElem ha)).symm) (fun k ρ' hk e => by
    subst e
    refine ⟨_, .inl ?_, rfl⟩
    have hm : mulP (.int (x * y ^ k)) (.int y) = .ok (.int (x * y ^ k * y)) := mulP_ii (okMul_of (mul_bound hx (pow_bound hy k)) hy (by omega) (by omega) (by omega))
    have g1 : (((ρ.set i (.val (.int (x * y ^ k)))).set a (lastS ρ a k)).set a (.val (.int (0 + k))))[i]? = some (.val (.int (x * y ^ k))) := by
      rw [List.getElem?_set_ne ai, List.getElem?_set_ne ai, List.getElem?_set_self hil]
    have g2 : (((ρ.set i (.val (.int (x * y ^ k)))).set a (lastS ρ a k)).set a (.val (.int (0 + k))))[j]? = some (.val (.int y)) := by
      rw [List.getElem?_set_ne aj, List.getElem?_set_ne aj, List.getElem?_set_ne ij, hj]
    simp only [turnL, gN_eq, bSeq_eq, sSet_eq, e2_eq, eVo_of g1, eVo_of g2, bind1, hm, st_ok, then_next, bNil_eq]
    rw [List.set_set, List.set_comm _ _ ai, List.set_set, Int.pow_succ, Int.mul_assoc, lastS_succ])
  exact e1
end PL
set_option Elab.async false
set_option linter.all false
set_option maxRecDepth 100000
set_option autoImplicit false
namespace PL
open PySem PySem.Spec L2
open PyProof.Rows hiding St
end PL
set_option Elab.async false
set_option linter.all false
set_option maxRecDepth 100000
set_option autoImplicit false
namespace PL
open PySem PySem.Spec L2
open PyProof.Rows hiding St
def asIs : List PV → Option (List Int)
  | [] => some []
  | .int b :: r => (asIs r).map (b :: ·)
  | _ => none
theorem asIs_map : ∀ {l : List PV} {bs : List Int}, asIs l = some bs → l = bs.map PV.int
  | [], _, h => by cases h; rfl
  | .int b :: r, bs, h => by
    unfold asIs at h
    obtain ⟨cs, h1, rfl⟩ := Option.map_eq_some_iff.mp h
    rw [asIs_map h1]; rfl
  | .non :: _, _, h | .bl _ :: _, _, h | .str _ :: _, _, h | .tup _ :: _, _, h | .lst _ :: _, _, h | .frz _ :: _, _, h | .dct :: _, _, h => by simp [asIs] at h
theorem asIs_of : ∀ bs : List Int, asIs (bs.map PV.int) = some bs
  | [] => rfl
  | b :: bs => by simp [asIs, asIs_of bs]
def sumPL : List PV → R PV
  | [.lst l] => match asIs l with
    | some ns => .ok (.int ns.sum)
    | _ => .stuck
  | _ => .stuck
theorem sumPL_exc (ps : List PV) (c : Str) : sumPL ps ≠ .exc c := by unfold sumPL; split <;> (try split) <;> exact fun z => nomatch z
theorem sumPL_ok {ns : List Int} : sumPL [.lst (ns.map PV.int)] = .ok (.int ns.sum) := by unfold sumPL; dsimp only; rw [asIs_of]
theorem s_sumL (K : PySem.W.Frag) : CallS K (rSum K) .t .s sumPL := by
  intro H0 O0 σ ρ H H2 xs ps Q S s r G
  unfold sumPL at G
  split at G
  · split at G
    · rename_i ns hns
      obtain ⟨v, rfl, r1⟩ := pr1 r
      rw [asIs_map hns] at r1
      obtain ⟨a, vs, rfl, h1, r2⟩ := rt_lst r1
      rw [r2.ints] at h1
      exact ⟨a, ns, rfl, .inl (.inl h1), G _ _ (Same.refl _) (.int _)⟩
    · exact G.elim
  · exact G.elim
section
variable {X : Cx} {W : WX} {e : Expr} {pos p : Pos} {fA : Rho → R (List PV)}
theorem e_sum1 (hc : X.calm = true) (mg : X.mg "sum" = none) (hg : Gl X "sum") (ha : AJ X W .t [e] fA) (he : starEach [e] X.env = (false, eval e X.env) :: starEach [] X.env := by rfl) : EJ X W .s (.Call (.Name "sum" p) [e] [] pos) (eD sumPL fA) := e_callB (cr_sum hc) sumPL_exc (s_sumL _) hg mg (by decide +kernel) ha (he := he)
end
def sMut0 (i : Nat) (g : List PV → R (List PV)) : Rho → Out := fun ρ => match ρ[i]? with
  | some (.own ps) => (match g ps with
    | .ok qs => .next (ρ.set i (.own qs))
    | _ => .stuck)
  | _ => .stuck
def popP : List PV → R (List PV)
  | [] => .stuck
  | p :: ps => .ok (p :: ps).dropLast
def clearP : List PV → R (List PV) := fun _ => .ok []
def getN (ps : List PV) : PV → Option PV
  | .int k => if 0 ≤ k ∧ k < 1000000 then ps[k.toNat]? else none
  | _ => none
def augN (ps : List PV) : PV → PV → PV → R (List PV)
  | .int k, .int a, .int b => match ixN ps.length k with
    | some j => .ok (ps.set j (.int (a + b)))
    | none => .stuck
  | _, _, _ => .stuck
def sAugI (i : Nat) (fi f : Rho → R PV) : Rho → Out := fun ρ => match ρ[i]? with
  | some (.own ps) => sE fi (fun q ρ => match getN ps q with
    | some x => sE f (fun y ρ => match augN ps q x y with
      | .ok qs => .next (ρ.set i (.own qs))
      | _ => .stuck) ρ
    | none => .stuck) ρ
  | _ => .stuck
section
variable {X : Cx} {W : WX} {nw : Bool} {o ix e : Expr} {apos pos p2 : Pos} {i : Nat} {f fi : Rho → R PV}
theorem s_pop (ho : PE X o (tVar i)) (hs : swapsWith (.Call (.Attribute o "pop" apos) [] [] pos) none pos.line X.env = pure false := by rfl)
    (hbase : attributeBase o "pop" X.env (eval o X.env) = eval o X.env := by rfl) (hline : (apos.endLine == pos.line) = true := by rfl) : SJ X W nw (.Expr (.Call (.Attribute o "pop" apos) [] [] pos) pos) (sMut0 i popP) := by
  refine ps_imp (ps_expr (pe_bm0 PySem.F.plainAttrs_list PySem.F.slot_list_pop PySem.F.type_list_pop mt_pop ho hbase hline) hs) fun D σ H ⟨H0, O0, ρ, S, G⟩ => ?_
  unfold sMut0 at G
  split at G
  · rename_i ps hp
    obtain ⟨a, vs, e1, e2, e3, e4, e5⟩ := S.own i ps hp
    unfold popP at G
    cases ps with
    | nil => exact G.elim
    | cons p ps =>
      have hl := e5.length
      have hv : vs ≠ [] := fun z => by rw [z] at hl; cases hl
      have hlast : vs[vs.length - 1]? = some (vs.getLast hv) := by rw [List.getLast_eq_getElem, List.getElem?_eq_getElem]
      exact ⟨.ref a, e1, .inl ⟨rfl, vs, .inl (.inl e2)⟩, a, vs, _, rfl, rfl, e2, hlast, G _ _ (S.write hp e1 e5.dropLast) (kept_write hp e1)⟩
  · exact G.elim
end
end PL
set_option Elab.async false
set_option linter.all false
set_option maxRecDepth 100000
set_option autoImplicit false
namespace PL
open PySem PySem.Spec L2
open PyProof.Rows hiding St
mutual
def noL : PV → Bool
  | .lst _ => false
  | .tup l => noLs l
  | _ => true
def noLs : List PV → Bool
  | [] => true
  | p :: l => noL p && noLs l
end
def isBP : PV → PV → R PV
  | .bl a, .bl b => .ok (.bl (decide (a = b)))
  | _, _ => .stuck
def notBP : PV → PV → R PV
  | .bl a, .bl b => .ok (.bl (!decide (a = b)))
  | _, _ => .stuck
@[simp] theorem isBP_bb (a b : Bool) : isBP (.bl a) (.bl b) = .ok (.bl (decide (a = b))) := rfl
@[simp] theorem notBP_bb (a b : Bool) : notBP (.bl a) (.bl b) = .ok (.bl (!decide (a = b))) := rfl
end PL
set_option Elab.async false
set_option linter.all false
set_option maxRecDepth 100000
set_option autoImplicit false
namespace PL
open PySem PySem.Spec L2
open PyProof.Rows hiding St
def kd : PV → Nat
  | .int _ => 0 | .bl _ => 1 | .str _ => 2 | .non => 3 | _ => 4
def kV : V → Nat
  | .int _ => 0 | .bl _ => 1 | .str _ => 2 | .non => 3 | _ => 4
def apart (ps qs : List PV) : Bool := !(ps.map kd == qs.map kd)
def keepOk (ps : List PV) (p : PV) : Bool := noL p || (match p with | .lst qs => noLs qs && apart ps qs | _ => false)
def dropS (ps : List PV) : Slot → Slot
  | .val p => if keepOk ps p = true then .val p else .un
  | .own l => if noLs l = true then .own l else .un
  | s => s
def sNest (i k : Nat) (g : List PV → R (List PV)) : Rho → Out := fun ρ => match ρ[i]? with
  | some (.val (.tup l)) => match l[k]? with
    | some (.lst ps) => match g ps with
      | .ok qs => if noLs qs = true then .next (ρ.map (dropS ps)) else .stuck
      | _ => .stuck
    | _ => .stuck
  | _ => .stuck
def H00 : Hp := fun _ => none
def O00 : Addr → Prop := fun _ => False
def GotZ (K : PySem.W.Frag) (σ : St) (H : Hp) (D : Ends) : Out → Prop
  | .next ρ' => ∀ σ' H', StR K H00 O00 H' σ' ρ' → D.nx σ' H'
  | .ret p => ∀ v H', Rep K H' O00 v p → D.rt v H'
  | _ => False
def tZ (K : PySem.W.Frag) (g : Rho → Out) : TS := fun D σ H => ∃ ρ, StR K H00 O00 H σ ρ ∧ GotZ K σ H D (g ρ)
abbrev BZ (X : Cx) (st : List Stmt) (g : Rho → Out) : Prop := PSs X st (tZ X.K g)
theorem StR.zero {K : PySem.W.Frag} {H0 H : Hp} {O0 : Addr → Prop} {σ : St} {ρ : Rho} (S : StR K H0 O0 H σ ρ) : StR K H00 O0 H σ ρ :=
  ⟨S.len, (fun _ _ z => nomatch z), S.all0, fun i ps h => by
    obtain ⟨a, vs, e1, e2, _, e4, e5⟩ := S.own i ps h
    exact ⟨a, vs, e1, e2, rfl, e4, e5⟩, S.dis, S.val, S.exs⟩
section
variable {X : Cx} {W : WX} {st : Stmt} {rest : List Stmt} {g h : Rho → Out}
theorem bz_nil : BZ X [] bNil := by
  refine pss_imp pss_nil fun D σ H ⟨ρ, S, G⟩ => ?_
  exact G σ H S
theorem bz_cons (h1 : SJ X W false st g) (h2 : BZ X rest h) : BZ X (st :: rest) (bSeq g h) := by
  refine pss_imp (pss_cons h1 h2) fun D σ H ⟨ρ, S, G⟩ => ⟨H00, O00, ρ, S, ?_⟩
  have G' : GotZ X.K σ H D ((g ρ).then h) := G
  revert G'
  cases g ρ with
  | next ρ' => exact fun G' σ' H' S' k => ⟨ρ', S', G'⟩
  | ret p => exact fun G v H' _ r => G v H' r
  | brk ρ' => exact False.elim
  | cont ρ' => exact False.elim
  | exc c ρ' => exact False.elim
  | stuck => exact False.elim
end
section
variable {K : PySem.W.Frag} {H : Hp} {O O' : Addr → Prop} {a : Addr} {vs : List V} {o : HO}
theorem rep_kd {v : V} {p : PV} (r : Rep K H O v p) : kV v = kd p := by cases r <;> rfl
theorem reps_kd : ∀ {v : List V} {p : List PV}, Reps K H O v p → v.map kV = p.map kd
  | _, _, .nil => rfl
  | _, _, .cons h r => by rw [List.map_cons, List.map_cons, rep_kd h, reps_kd r]
mutual
theorem Rep.past (ha : H a = some (.lst vs)) (hO : ∀ b, O' b → O b) : ∀ {v : V} {p : PV}, noL p = true → Rep K H O v p → Rep K (upd H a o) O' v p
  | _, _, _, .non => .non
  | _, _, _, .bl b => .bl b
  | _, _, _, .int i => .int i
  | _, _, _, .str x => .str x
  | _, _, n, .lst _ _ _ => by rw [noL] at n; cases n
  | _, _, n, .tup (.inl ⟨h, m⟩) r => .tup (.inl ⟨by rw [upd_ne (fun z => by rw [z, ha] at h; cases h)]; exact h, fun z => m (hO _ z)⟩) (Reps.past ha hO (by rw [noL] at n; exact n) r)
  | _, _, n, .tup (.inr h) r => .tup (.inr h) (Reps.past ha hO (by rw [noL] at n; exact n) r)
  | _, _, _, .frz (.inl ⟨⟨o, h⟩, m⟩) => .frz (.inl ⟨⟨o, by rw [upd_ne (fun z => by rw [z, ha] at h; cases h)]; exact h⟩, fun z => m (hO _ z)⟩)
  | _, _, _, .frz (.inr h) => .frz (.inr h)
  | _, _, _, .dct h m => .dct (by rw [upd_ne (fun z => by rw [z, ha] at h; cases h)]; exact h) fun z => m (hO _ z)
theorem Reps.past (ha : H a = some (.lst vs)) (hO : ∀ b, O' b → O b) : ∀ {v : List V} {p : List PV}, noLs p = true → Reps K H O v p → Reps K (upd H a o) O' v p
  | _, _, _, .nil => .nil
  | _, _, n, .cons h r => by
    rw [noLs, Bool.and_eq_true] at n
    exact .cons (Rep.past ha hO n.1 h) (Reps.past ha hO n.2 r)
end
end
theorem dropS_own {ps : List PV} {s : Slot} {l : List PV} (h : dropS ps s = .own l) : s = .own l ∧ noLs l = true := by
  cases s with
  | un => cases h
  | ex a => cases h
  | val p => unfold dropS at h; dsimp only at h; split at h <;> cases h
  | own q =>
    unfold dropS at h
    dsimp only at h
    split at h
    · rename_i n; cases h; exact ⟨rfl, n⟩
    · cases h
theorem dropS_val {ps : List PV} {s : Slot} {p : PV} (h : dropS ps s = .val p) : s = .val p ∧ keepOk ps p = true := by
  cases s with
  | un => cases h
  | ex a => cases h
  | own q => unfold dropS at h; dsimp only at h; split at h <;> cases h
  | val q =>
    unfold dropS at h
    dsimp only at h
    split at h
    · rename_i n; cases h; exact ⟨rfl, n⟩
    · cases h
theorem dropS_ex {ps : List PV} {s : Slot} {a : Addr} (h : dropS ps s = .ex a) : s = .ex a := by
  cases s with
  | un => cases h
  | ex b => exact h
  | own q => unfold dropS at h; dsimp only at h; split at h <;> cases h
  | val q => unfold dropS at h; dsimp only at h; split at h <;> cases h
theorem map_get {ρ : Rho} {f : Slot → Slot} {i : Nat} {s : Slot} (h : (ρ.map f)[i]? = some s) : ∃ s', ρ[i]? = some s' ∧ f s' = s := by
  rw [List.getElem?_map] at h
  cases hq : ρ[i]? with
  | none => rw [hq] at h; cases h
  | some s' => rw [hq] at h; exact ⟨s', rfl, Option.some.inj h⟩
theorem StR.nest {K : PySem.W.Frag} {H : Hp} {O0 : Addr → Prop} {σ : St} {ρ : Rho} (S : StR K H00 O0 H σ ρ) {a : Addr} {vs ws : List V} {ps : List PV} (ha : H a = some (.lst vs)) (na : ¬ OO O0 σ ρ a) (r : Reps K H (OO O0 σ ρ) vs ps) : StR K H00 O0 (upd H a (.lst ws)) σ (ρ.map (dropS ps)) := by
  have less : ∀ b, OO O0 σ (ρ.map (dropS ps)) b → OO O0 σ ρ b := fun b h => by
    rcases h with h | ⟨i, qs, h1, h2⟩
    · exact .inl h
    · obtain ⟨s, e1, e2⟩ := map_get h1
      obtain ⟨rfl, _⟩ := dropS_own e2
      exact .inr ⟨i, qs, e1, h2⟩
  refine ⟨by rw [List.length_map, S.len], (fun _ _ z => nomatch z), fun b h z => ?_, fun i qs h => ?_, fun i j b qs rs h1 h2 h3 h4 => ?_, fun i p h => ?_, fun i b h => ?_⟩
  · by_cases e : b = a
    · rw [e, upd_same] at z; cases z
    · rw [upd_ne e] at z; exact S.all0 b h z
  · obtain ⟨s, e1, e2⟩ := map_get h
    obtain ⟨rfl, n⟩ := dropS_own e2
    obtain ⟨b, us, f1, f2, f3, f4, f5⟩ := S.own i qs e1
    have ne : b ≠ a := fun z => na (.inr ⟨i, qs, e1, by rw [← z]; exact f1⟩)
    exact ⟨b, us, f1, by rw [upd_ne ne]; exact f2, f3, f4, Reps.past ha less n f5⟩
  · obtain ⟨s, e1, e2⟩ := map_get h1
    obtain ⟨rfl, _⟩ := dropS_own e2
    obtain ⟨s, e3, e4⟩ := map_get h2
    obtain ⟨rfl, _⟩ := dropS_own e4
    exact S.dis i j b qs rs e1 e3 h3 h4
  · obtain ⟨s, e1, e2⟩ := map_get h
    obtain ⟨rfl, n⟩ := dropS_val e2
    obtain ⟨v, f1, f2⟩ := S.val i p e1
    refine ⟨v, f1, ?_⟩
    unfold keepOk at n
    rw [Bool.or_eq_true] at n
    rcases n with n | n
    · exact Rep.past ha less n f2
    · cases f2 with
      | lst h1 h2 h3 =>
        rename_i b ys qs
        have n' : noLs qs = true ∧ apart ps qs = true := by rw [← Bool.and_eq_true]; exact n
        have ne : b ≠ a := fun z => by
          subst z
          rw [ha] at h1
          cases h1
          have k1 := reps_kd r
          have k2 := reps_kd h3
          have := n'.2
          unfold apart at this
          rw [← k1, ← k2] at this
          simp at this
        exact .lst (by rw [upd_ne ne]; exact h1) (fun z => h2 (less _ z)) (Reps.past ha less n'.1 h3)
      | non => cases n
      | bl b => cases n
      | int i => cases n
      | str x => cases n
      | tup _ _ => cases n
      | frz _ => cases n
      | dct _ _ => cases n
  · obtain ⟨s, e1, e2⟩ := map_get h
    have e3 := dropS_ex e2
    rw [e3] at e1
    exact S.exs i b e1
section
variable {X : Cx} {W : WX} {rest : List Stmt} {h : Rho → Out} {o : Expr} {apos pos : Pos} {i k : Nat}
theorem bz_clear (ho : EJ X W .s o (e2 ixP (eVo i) (eC (.int k)))) (h2 : BZ X rest h) (hs : swapsWith (.Call (.Attribute o "clear" apos) [] [] pos) none pos.line X.env = pure false := by rfl)
    (hbase : attributeBase o "clear" X.env (eval o X.env) = eval o X.env := by rfl) (hline : (apos.endLine == pos.line) = true := by rfl) : BZ X (.Expr (.Call (.Attribute o "clear" apos) [] [] pos) pos :: rest) (bSeq (sNest i k clearP) h) := by
  refine pss_imp (pss_cons (ps_expr (pe_bm0 PySem.F.plainAttrs_list PySem.F.slot_list_clear PySem.F.type_list_clear mt_clear ho hbase hline) hs) h2) fun D σ H ⟨ρ, S, G⟩ => ?_
  have G' : GotZ X.K σ H D ((sNest i k clearP ρ).then h) := G
  unfold sNest at G'
  split at G'
  · rename_i l hl
    split at G'
    · rename_i ps hps
      have c : clearP ps = .ok [] := rfl
      rw [c] at G'
      dsimp only at G'
      rw [if_pos (show noLs [] = true by simp [noLs])] at G'
      refine ⟨H00, O00, ρ, S, ?_⟩
      have e : e2 ixP (eVo i) (eC (.int k)) ρ = .ok (.lst ps) := by
        have e1 : eVo i ρ = .ok (.tup l) := by unfold eVo; rw [hl]
        unfold e2
        rw [e1, R.bind_ok]
        show (R.ok (PV.int (k : Int))).bind (fun y => ixP (.tup l) y) = _
        rw [R.bind_ok]
        unfold ixP
        dsimp only
        have : atI l (k : Int) = some (.lst ps) := by
          unfold atI ixN
          rw [if_pos (by omega)]
          have hk : k < l.length := (List.getElem?_eq_some_iff.mp hps).1
          rw [if_pos (by omega), Option.bind_some, Int.toNat_natCast]
          exact hps
        rw [this]
      rw [e]
      intro v H1 s1 r1
      have S1 := S.step s1
      cases r1 with
      | lst h1 h2 h3 =>
        rename_i a vs
        refine ⟨.inl ⟨rfl, vs, .inl (.inl h1)⟩, a, vs, rfl, rfl, h1, ?_⟩
        exact ⟨_, S1.zero.nest h1 h2 h3, G'⟩
    · exact G'.elim
  · exact G'.elim
end
/-- the law, by its body from an empty start -/
theorem law_z {P : Program} {w : World} {K : PySem.W.Frag} {mg : Str → Option Value} {base : Heap} {x qual : Str} {st : Stmt} {f : Addr} {fd : FuncData} {N ps : List Str} {k : Nat} {g : Rho → Out} (hF : ∀ ns : List Int, ns.length ≤ 63 → (∀ z ∈ ns, z.natAbs.log2 < 1048577) → runF N.length g [.frz (ns.map PV.int)] = .ok (.bl true)) (F : Fun K x qual st f fd) (S : FnScope N ps (defScope st)) (hn : 1 = ps.length)
    (hbody : ∀ (cdv : Value) (A : Around) (outer : List PySem.Env) (s : Shared) (H : Hp) (E : XK), Room k (A.deeper (envOfC qual (defScope st) s.heap.objs.size f cdv)) →
      BZ (cxOf (L2N.CX P w) P w K mg base N qual (defScope st) f cdv A outer s H E) (defBody st) g) : FnOk P w K mg base (L2N.CX P w) (k + 1) f fd ps (spLaw K) := by
  refine Fun_okN F S (fun vs H Q E h => ?_) (fun cdv A outer s H vs Q E hr h => ?_)
  · obtain ⟨a, ns, e, _⟩ := h
    rw [e]; exact hn
  · obtain ⟨a, ns, e1, hs, ho, hl, hb, q⟩ := h
    subst e1
    have r : Reps K H (fun _ => False) [.ref a] [.frz (ns.map PV.int)] := .cons (.frz (by
      rcases hs with (hs | hs) | hs
      · rcases ho a with z | ⟨o, xs, z⟩
        · rw [z] at hs; cases hs
        · rw [z] at hs; cases hs
      · exact .inl ⟨hs, fun z => z⟩
      · exact .inr fun _ => .inr hs)) .nil
    refine ⟨_, hbody cdv A outer s H E hr, _, (start_st (N := N) (fun _ z => z.elim) r).zero, ?_⟩
    have t := hF ns hl fun z hz => bits_log (hb z hz)
    unfold runF at t
    revert t
    cases hg : g (([PV.frz (ns.map PV.int)]).map Slot.val ++ List.replicate (N.length - [PV.frz (ns.map PV.int)].length) Slot.un) with
    | ret p =>
      intro t v H' r'
      have e : p = .bl true := by
        have t' : R.ok p = R.ok (PV.bl true) := t
        cases t'; rfl
      subst e
      cases r'
      exact q _ _ rfl
    | next ρ' => intro t; exact absurd t (fun z => nomatch z)
    | brk ρ' => intro t; exact absurd t (fun z => nomatch z)
    | cont ρ' => intro t; exact absurd t (fun z => nomatch z)
    | exc c ρ' => intro t; exact absurd t (fun z => nomatch z)
    | stuck => intro t; exact absurd t (fun z => nomatch z)
end PL
set_option Elab.async false
set_option linter.all false
set_option maxRecDepth 100000
set_option autoImplicit false
namespace PM
open PySem PySem.Spec L2 PL
open PyProof.Rows hiding St
noncomputable def D_is_whole : Rho → Out := (bSeq (sRet (eAn (e1 (isiP "int") (eVo 0)) (e1 notP (e1 (isiP "bool") (eVo 0))))) bNil)
noncomputable def F_is_whole : List PV → R PV := runF 1 D_is_whole
noncomputable def D_is_prime : Rho → Out := (bSeq (sIf (tOr' (tNt (tB1 (eD F_is_whole (aCons (eV 0) aNil)))) (tOr' (tB1 (e2 ltP (eVo 0) (eC (.int 2)))) (tB1 (e2 gtP (eVo 0) (eC (.int 97)))))) (bSeq (sRet (eC (.bl false))) bNil) bNil) (bSeq (sRet (eD allP (aCons (eLc [1] (iR rng2 (aCons (eC (.int 2)) (aCons (eVo 0) aNil))) (gN 1) cYes (e2 neP (e2 modP (eVo 0) (eVo 1)) (eC (.int 0)))) aNil))) bNil))
noncomputable def F_is_prime : List PV → R PV := runF 2 D_is_prime
noncomputable def D_exponent : Rho → Out := (bSeq (sSet 2 (eC (.int 0))) (bSeq (sTo (gT (gsCons (gN 3) (gsCons (gN 4) gsNil))) (eD divmodP (aCons (eVo 1) (aCons (eVo 0) aNil)))) (bSeq (sWh (tB1 (e2 eqP (eVo 4) (eC (.int 0)))) (bSeq (sAug 2 (intP (fun _ _ => true) fun a b => .int (a + b)) (eC (.int 1))) (bSeq (sTo (gT (gsCons (gN 3) (gsCons (gN 4) gsNil))) (eD divmodP (aCons (eVo 3) (aCons (eVo 0) aNil)))) bNil))) (bSeq (sRet (eV 2)) bNil))))
noncomputable def F_exponent : List PV → R PV := runF 5 D_exponent
noncomputable def D_divisor : Rho → Out := (bSeq (sSet 0 (eD absP (aCons (eVo 0) aNil))) (bSeq (sSet 1 (eD absP (aCons (eVo 1) aNil))) (bSeq (sWh (tB1 (e2 gtP (eVo 1) (eC (.int 0)))) (bSeq (sPar 0 1 (aCons (eV 1) (aCons (e2 modP (eVo 0) (eVo 1)) aNil))) bNil)) (bSeq (sRet (eV 0)) bNil))))
noncomputable def F_divisor : List PV → R PV := runF 2 D_divisor
noncomputable def D_fraction : Rho → Out := (bSeq (sIf (tOr' (tNt (tB1 (eD F_is_whole (aCons (eV 0) aNil)))) (tOr' (tNt (tB1 (eD F_is_whole (aCons (eV 1) aNil)))) (tB1 (e2 eqP (eVo 1) (eC (.int 0)))))) (bSeq (sRaise "NoFraction") bNil) bNil) (bSeq (sSet 2 (eD F_divisor (aCons (eV 0) (aCons (eV 1) aNil)))) (bSeq (sIf (tB1 (e2 ltP (eVo 1) (eC (.int 0)))) (bSeq (sSet 2 (e1 negP (eVo 2))) bNil) bNil) (bSeq (sRet (eD tupP (aCons (e2 fdivP (eVo 0) (eVo 2)) (aCons (e2 fdivP (eVo 1) (eVo 2)) aNil)))) bNil))))
noncomputable def F_fraction : List PV → R PV := runF 3 D_fraction
noncomputable def D_is_poly : Rho → Out := (bSeq (sIf (tOr' (tNt (tB1 (e1 (isiP "list") (eVo 0)))) (tOr' (tB1 (e2 ltP (eD lenP (aCons (eVo 0) aNil)) (eC (.int 2)))) (tB1 (e2 gtP (eD lenP (aCons (eVo 0) aNil)) (eC (.int 9)))))) (bSeq (sRet (eC (.bl false))) bNil) bNil) (bSeq (sRet (eAn (eD allP (aCons (eLc [1] (iS (eV 0)) (gN 1) cYes (eD F_is_whole (aCons (eV 1) aNil))) aNil)) (e2 neP (e2 ixP (eVo 0) (e1 negP (eC (.int 1)))) (eC (.int 0))))) bNil))
noncomputable def F_is_poly : List PV → R PV := runF 2 D_is_poly
noncomputable def D_points_of : Rho → Out := (bSeq (sIf (tNt (tB1 (eD F_is_prime (aCons (eV 0) aNil)))) (bSeq (sRaise "NoPrime") bNil) bNil) (bSeq (sIf (tNt (tB1 (eD F_is_poly (aCons (eV 1) aNil)))) (bSeq (sRaise "NoPolynomial") bNil) bNil) (bSeq (sRet (eLc [2, 3] (iEn (eV 1)) (gT (gsCons (gN 2) (gsCons (gN 3) gsNil))) (tB1 (e2 neP (eVo 3) (eC (.int 0)))) (eD tupP (aCons (eV 2) (aCons (eD F_exponent (aCons (eV 0) (aCons (eV 3) aNil))) aNil))))) bNil)))
noncomputable def F_points_of : List PV → R PV := runF 4 D_points_of
noncomputable def D_is_needless : Rho → Out := (bSeq (sRet (e2 geP (e2 mulP (e2 subP (e2 ixP (eVo 1) (eC (.int 1))) (e2 ixP (eVo 0) (eC (.int 1)))) (e2 subP (e2 ixP (eVo 2) (eC (.int 0))) (e2 ixP (eVo 0) (eC (.int 0))))) (e2 mulP (e2 subP (e2 ixP (eVo 2) (eC (.int 1))) (e2 ixP (eVo 0) (eC (.int 1)))) (e2 subP (e2 ixP (eVo 1) (eC (.int 0))) (e2 ixP (eVo 0) (eC (.int 0))))))) bNil)
noncomputable def F_is_needless : List PV → R PV := runF 3 D_is_needless
noncomputable def D_corners_of : Rho → Out := (bSeq (sSetO 2 (eD lstP aNil)) (bSeq (sFor (iS (eD F_points_of (aCons (eV 0) (aCons (eV 1) aNil)))) (gN 3) (bSeq (sWh (tAn (tB1 (e2 gtP (eD lenP (aCons (eVo 2) aNil)) (eC (.int 1)))) (tB1 (eD F_is_needless (aCons (e2 ixP (eVo 2) (e1 negP (eC (.int 2)))) (aCons (e2 ixP (eVo 2) (e1 negP (eC (.int 1)))) (aCons (eV 3) aNil)))))) (bSeq (sMut0 2 popP) bNil)) (bSeq (sMut 2 appP (eV 3)) bNil))) (bSeq (sRetO 2) bNil)))
noncomputable def F_corners_of : List PV → R PV := runF 4 D_corners_of
noncomputable def D_sizes_of : Rho → Out := (bSeq (sSet 2 (eD F_corners_of (aCons (eV 0) (aCons (eV 1) aNil)))) (bSeq (sSetO 3 (eD lstP aNil)) (bSeq (sFor (iR rng3 (aCons (e2 subP (eD lenP (aCons (eVo 2) aNil)) (eC (.int 1))) (aCons (eC (.int 0)) (aCons (e1 negP (eC (.int 1))) aNil)))) (gN 4) (bSeq (sTo (gT (gsCons (gN 5) (gsCons (gN 6) gsNil))) (e2 ixP (eVo 2) (e2 subP (eVo 4) (eC (.int 1))))) (bSeq (sTo (gT (gsCons (gN 7) (gsCons (gN 8) gsNil))) (e2 ixP (eVo 2) (eVo 4))) (bSeq (sMut 3 appP (eD tupP (aCons (eD F_fraction (aCons (e2 subP (eVo 6) (eVo 8)) (aCons (e2 subP (eVo 7) (eVo 5)) aNil))) (aCons (e2 subP (eVo 7) (eVo 5)) aNil)))) bNil)))) (sFrz 3 (bSeq (sRet (eD tupP (aCons (e2 ixP (e2 ixP (eVo 2) (eC (.int 0))) (eC (.int 0))) (aCons (eV 3) aNil)))) bNil)))))
noncomputable def F_sizes_of : List PV → R PV := runF 9 D_sizes_of
noncomputable def D_turned : Rho → Out := (bSeq (sSet 2 (eD tupP (aCons (eV 1) (aCons (eC (.int 0)) aNil)))) (bSeq (sSet 3 (eD tupP (aCons (e2 modP (eVo 0) (eVo 1)) (aCons (eC (.int 1)) aNil)))) (bSeq (sWh (tB1 (e2 gtP (e2 ixP (eVo 3) (eC (.int 0))) (eC (.int 0)))) (bSeq (sSet 4 (e2 fdivP (e2 ixP (eVo 2) (eC (.int 0))) (e2 ixP (eVo 3) (eC (.int 0))))) (bSeq (sPar 2 3 (aCons (eV 3) (aCons (eD tupP (aCons (e2 subP (e2 ixP (eVo 2) (eC (.int 0))) (e2 mulP (eVo 4) (e2 ixP (eVo 3) (eC (.int 0))))) (aCons (e2 subP (e2 ixP (eVo 2) (eC (.int 1))) (e2 mulP (eVo 4) (e2 ixP (eVo 3) (eC (.int 1))))) aNil))) aNil))) bNil))) (bSeq (sRet (e2 modP (e2 ixP (eVo 2) (eC (.int 1))) (eVo 1))) bNil))))
noncomputable def F_turned : List PV → R PV := runF 5 D_turned
end PM
set_option Elab.async false
set_option linter.all false
set_option maxRecDepth 100000
set_option autoImplicit false
namespace PM
open PySem PySem.Spec L2 PL
open PyProof.Rows hiding St
theorem f_is_whole (p : PV) : F_is_whole [p] = .ok (.bl (isW p)) := by
  show (D_is_whole [.val p]).res = _
  simp [D_is_whole, whole_eq]
def primesL : List Int := [2, 3, 5, 7, 11, 13, 17, 19, 23, 29, 31, 37, 41, 43, 47, 53, 59, 61, 67, 71, 73, 79, 83, 89, 97]
def isP (p : PV) : Bool := match p with
  | .int n => decide (n ∈ primesL)
  | _ => false
def primesN : List Nat := [2, 3, 5, 7, 11, 13, 17, 19, 23, 29, 31, 37, 41, 43, 47, 53, 59, 61, 67, 71, 73, 79, 83, 89, 97]
theorem primes_tab : ((List.range 98).all fun k => (!decide (2 ≤ k)) || (((List.range (k - 2)).all fun i => !(k % (2 + i) == 0)) == primesN.contains k)) = true := by decide +kernel
theorem primes_by (k : Nat) (hk : k < 98) (h2 : 2 ≤ k) : ((List.range (k - 2)).map fun (i : Nat) => (!(((k : Int) % ((2 : Int) + (i : Int))) == 0))).all id = decide ((k : Int) ∈ primesL) := by
  have h := List.all_eq_true.mp primes_tab k (List.mem_range.mpr hk)
  rw [decide_eq_true h2, Bool.not_true, Bool.false_or, beq_iff_eq] at h
  have e1 : (fun (i : Nat) => (!(((k : Int) % ((2 : Int) + (i : Int))) == 0))) = fun i => !(k % (2 + i) == 0) := by
    funext i
    rw [show ((2 : Int) + (i : Int)) = ((2 + i : Nat) : Int) by omega, ← Int.natCast_emod]
    congr 1
    rw [Bool.eq_iff_iff, beq_iff_eq, beq_iff_eq]
    omega
  rw [e1, List.all_map]
  show ((List.range (k - 2)).all fun i => !(k % (2 + i) == 0)) = _
  rw [h, List.contains_eq_mem]
  have e2 : primesL = primesN.map fun (n : Nat) => (n : Int) := rfl
  rw [Bool.eq_iff_iff, decide_eq_true_eq, decide_eq_true_eq, e2, List.mem_map]
  constructor
  · exact fun z => ⟨k, z, rfl⟩
  · rintro ⟨n, z, e⟩
    rw [show k = n by omega]; exact z
theorem primesL_le : ∀ n ∈ primesL, 2 ≤ n ∧ n ≤ 97 := by decide
def neM (k : Int) : PV → PV
  | .int i => .bl (!((k % i) == 0))
  | _ => .non
theorem prime_hr (k : Nat) (hk : k < 98) (h2 : 2 ≤ k) : iR rng2 (aCons (eC (.int 2)) (aCons (eVo 0) aNil)) [.val (.int (k : Int)), .un] = .ok (rngL 2 (k - 2)) := by
  simp only [iR_eq, aCons_eq, eC_eq, bind1, eVo0, aNil_eq]
  rw [rng2_sm (by omega) (by omega) (by omega) (by omega)]
  rw [show ((k : Int) - 2).toNat = k - 2 by omega]
theorem prime_hm (k : Nat) : lcGo (gN 1) cYes (e2 neP (e2 modP (eVo 0) (eVo 1)) (eC (.int 0))) [.val (.int (k : Int)), .un] (rngL 2 (k - 2)) = .ok ((rngL 2 (k - 2)).map (neM k)) :=
  lcGo_map _ _ fun q hq => by
    unfold rngL at hq
    obtain ⟨i, hi, rfl⟩ := List.mem_map.mp hq
    refine ⟨_, rfl, ?_⟩
    simp only [e2_eq, eVo0, bind1, List.set_cons_succ, List.set_cons_zero, eVos, eC_eq]
    rw [modP_pos (by omega)]
    simp [neM]
theorem prime_map (k : Nat) : (rngL 2 (k - 2)).map (neM k) = (((List.range (k - 2)).map fun (i : Nat) => (!(((k : Int) % ((2 : Int) + (i : Int))) == 0)))).map PV.bl := by
  unfold rngL
  rw [List.map_map, List.map_map]
  rfl
theorem allP_bl (bs : List Bool) : allP [.lst (bs.map PV.bl)] = .ok (.bl (bs.all id)) := by
  unfold allP
  dsimp only
  rw [asBs_of]
def primeBs (k : Nat) : List Bool := (List.range (k - 2)).map fun (i : Nat) => (!(((k : Int) % ((2 : Int) + (i : Int))) == 0))
theorem prime_he (k : Nat) (hk : k < 98) (h2 : 2 ≤ k) : eLc [1] (iR rng2 (aCons (eC (.int 2)) (aCons (eVo 0) aNil))) (gN 1) cYes (e2 neP (e2 modP (eVo 0) (eVo 1)) (eC (.int 0))) [.val (.int (k : Int)), .un] = .ok (.lst ((primeBs k).map PV.bl)) := by
  rw [eLc_ok (vs := [1]) (test := cYes) (ρ := [.val (.int (k : Int)), .un]) rfl (prime_hr k hk h2) (by rw [rngL_len]; omega) (prime_hm k), prime_map]
  rfl
theorem f_is_prime (p : PV) : F_is_prime [p] = .ok (.bl (isP p)) := by
  show (D_is_prime [.val p, .un]).res = _
  by_cases hw : isW p = true
  · cases p with
    | int n =>
      by_cases h2 : n < 2
      · have : ¬ n ∈ primesL := fun h => by have := primesL_le n h; omega
        simp [D_is_prime, f_is_whole, isW, h2, isP, this]
      · by_cases h97 : 97 < n
        · have : ¬ n ∈ primesL := fun h => by have := primesL_le n h; omega
          simp [D_is_prime, f_is_whole, isW, h2, h97, isP, this]
        · obtain ⟨k, rfl⟩ : ∃ k : Nat, n = (k : Int) := ⟨n.toNat, by omega⟩
          unfold D_is_prime
          have hb : (primeBs k).all id = decide ((k : Int) ∈ primesL) := primes_by k (by omega) (by omega)
          simp [D_is_prime, f_is_whole, isW, h2, h97, isP, prime_he k (by omega) (by omega), allP_bl, hb]
    | _ => simp [isW] at hw
  · have hw' : isW p = false := by cases h : isW p <;> simp_all
    have hp : isP p = false := by cases p <;> simp_all [isP, isW]
    simp [D_is_prime, f_is_whole, hw', hp]
theorem f_exponent (p m : Int) (hp : 2 ≤ p) (hp2 : p < 2 ^ 8000) (hm : m % p ≠ 0) (k : Nat) : F_exponent [.int p, .int (m * p ^ k)] = .ok (.int k) := by
  have turn : ∀ k : Nat, divmodP [.int (m * p ^ k), .int p] = .ok (.tup [.int (m * p ^ k / p), .int (m * p ^ k % p)]) := fun k => divmodP_pos (by omega) (by omega)
  have up : ∀ k : Nat, m * p ^ (k + 1) / p = m * p ^ k ∧ m * p ^ (k + 1) % p = 0 := fun k => by
    rw [Int.pow_succ, ← Int.mul_assoc]
    exact ⟨Int.mul_ediv_cancel _ (by omega), Int.mul_emod_left _ _⟩
  have run : ∀ (j : Nat) (c : Int) (a : PV), sWh (tB1 (e2 eqP (eVo 4) (eC (.int 0)))) (bSeq (sAug 2 (intP (fun _ _ => true) fun a b => .int (a + b)) (eC (.int 1))) (bSeq (sTo (gT (gsCons (gN 3) (gsCons (gN 4) gsNil))) (eD divmodP (aCons (eVo 3) (aCons (eVo 0) aNil)))) bNil))
      [.val (.int p), .val a, .val (.int c), .val (.int (m * p ^ j / p)), .val (.int (m * p ^ j % p))] = .next [.val (.int p), .val a, .val (.int (c + j)), .val (.int (m / p)), .val (.int (m % p))] := by
    intro j
    induction j with
    | zero =>
      intro c a
      have hm' : (m % p == 0) = false := by simpa using hm
      rw [sWh_eq]
      simp [hm']
    | succ j ih =>
      intro c a
      rw [sWh_eq, (up j).1, (up j).2]
      simp [turn, ih]
      omega
  show (D_exponent [.val (.int p), .val (.int (m * p ^ k)), .un, .un, .un]).res = _
  simp [D_exponent, turn, run]
end PM
set_option Elab.async false
set_option linter.all false
set_option maxRecDepth 100000
set_option autoImplicit false
namespace PM
open PySem PySem.Spec L2 PL
open PyProof.Rows hiding St
def R.own (r : R (List PV)) (ρ : Rho) (i : Nat) : Out := match r with
  | .ok qs => .next (ρ.set i (.own qs))
  | _ => .stuck
@[simp] theorem own_ok {qs : List PV} {ρ : Rho} {i : Nat} : R.own (.ok qs) ρ i = .next (ρ.set i (.own qs)) := nr rfl
def getOwn (ρ : Rho) (i : Nat) : Option (List PV) := match ρ[i]? with
  | some (.own ps) => some ps
  | _ => none
@[simp] theorem getOwn0 {ps : List PV} {ρ : Rho} : getOwn (.own ps :: ρ) 0 = some ps := nr rfl
@[simp] theorem getOwnS {s : Slot} {ρ : Rho} {i : Nat} : getOwn (s :: ρ) (i + 1) = getOwn ρ i := by simp [getOwn]
def onOwn (o : Option (List PV)) (k : List PV → Out) : Out := match o with
  | some ps => k ps
  | none => .stuck
@[simp] theorem onOwn_some {ps : List PV} {k : List PV → Out} : onOwn (some ps) k = k ps := nr rfl
@[simp] theorem sMut_eq {i : Nat} {g : List PV → PV → R (List PV)} {f : Rho → R PV} {ρ : Rho} : sMut i g f ρ = onOwn (getOwn ρ i) fun ps => (f ρ).st ρ fun p => R.own (g ps p) ρ i := by
  unfold sMut getOwn
  cases ρ[i]? with
  | none => rfl
  | some t => cases t <;> rfl
def asL : PV → R (List PV)
  | .lst l => .ok l
  | _ => .stuck
@[simp] theorem asL_l {l : List PV} : asL (.lst l) = .ok l := nr rfl
@[simp] theorem sSetO_eq {i : Nat} {f : Rho → R PV} {ρ : Rho} : sSetO i f ρ = (f ρ).st ρ fun p => R.own (asL p) ρ i := by
  unfold sSetO sE R.st R.own asL
  cases f ρ with
  | ok p => cases p <;> rfl
  | exc c => rfl
  | stuck => rfl
@[simp] theorem sRetO_eq {i : Nat} {ρ : Rho} : sRetO i ρ = onOwn (getOwn ρ i) fun ps => .ret (.lst ps) := by
  unfold sRetO getOwn
  cases ρ[i]? with
  | none => rfl
  | some t => cases t <;> rfl
def frzR (ρ : Rho) (i : Nat) : Rho := match ρ[i]? with
  | some (.own ps) => ρ.set i (.val (.lst ps))
  | _ => ρ
@[simp] theorem frzR0 {ps : List PV} {ρ : Rho} : frzR (.own ps :: ρ) 0 = .val (.lst ps) :: ρ := nr rfl
@[simp] theorem frzR0v {p : PV} {ρ : Rho} : frzR (.val p :: ρ) 0 = .val p :: ρ := nr rfl
@[simp] theorem frzR0u {ρ : Rho} : frzR (.un :: ρ) 0 = .un :: ρ := nr rfl
@[simp] theorem frzRS {s : Slot} {ρ : Rho} {i : Nat} : frzR (s :: ρ) (i + 1) = s :: frzR ρ i := by
  unfold frzR
  rw [List.getElem?_cons_succ]
  cases ρ[i]? with
  | none => rfl
  | some t => cases t <;> rfl
@[simp] theorem sFrz_eq {i : Nat} {g : Rho → Out} {ρ : Rho} : sFrz i g ρ = g (frzR ρ i) := by
  unfold sFrz frzR
  cases ρ[i]? with
  | none => rfl
  | some t => cases t <;> rfl
theorem appP_ok {l : List PV} {p : PV} (h : l.length < 1000000) : appP l p = .ok (l ++ [p]) := by
  unfold appP
  rw [if_pos (Nat.lt_of_lt_of_le h (size_ok (Nat.le_refl _)))]
@[simp] theorem sSetI_eq {i : Nat} {f fi : Rho → R PV} {ρ : Rho} : sSetI i f fi ρ = onOwn (getOwn ρ i) fun ps => (f ρ).st ρ fun p => (fi ρ).st ρ fun q => R.own (setP ps p q) ρ i := by
  unfold sSetI getOwn
  cases ρ[i]? with
  | none => rfl
  | some t => cases t <;> rfl
def Out.fo (o : Out) (k : Rho → Out) : Out := match o with
  | .next ρ => k ρ
  | .cont ρ => k ρ
  | .brk ρ => .next ρ
  | o => o
@[simp] theorem fo_next {ρ : Rho} {k : Rho → Out} : Out.fo (.next ρ) k = k ρ := nr rfl
@[simp] theorem fo_cont {ρ : Rho} {k : Rho → Out} : Out.fo (.cont ρ) k = k ρ := nr rfl
@[simp] theorem fo_brk {ρ : Rho} {k : Rho → Out} : Out.fo (.brk ρ) k = .next ρ := nr rfl
@[simp] theorem fo_ret {p : PV} {k : Rho → Out} : Out.fo (.ret p) k = .ret p := nr rfl
@[simp] theorem fo_exc {c : Str} {ρ : Rho} {k : Rho → Out} : Out.fo (.exc c ρ) k = .exc c ρ := nr rfl
@[simp] theorem forL_nil {tgt : PV → Rho → Option Rho} {body : Rho → Out} {ρ : Rho} : forL tgt body [] ρ = .next ρ := nr rfl
def onR (o : Option Rho) (k : Rho → Out) : Out := match o with
  | some ρ => k ρ
  | none => .stuck
@[simp] theorem onR_some {ρ : Rho} {k : Rho → Out} : onR (some ρ) k = k ρ := nr rfl
theorem forL_cons {tgt : PV → Rho → Option Rho} {body : Rho → Out} {p : PV} {ps : List PV} {ρ : Rho} : forL tgt body (p :: ps) ρ = onR (tgt p ρ) fun ρ1 => Out.fo (body ρ1) (forL tgt body ps) := by
  show (match tgt p ρ with | none => Out.stuck | some ρ1 => match body ρ1 with | .next ρ' => forL tgt body ps ρ' | .cont ρ' => forL tgt body ps ρ' | .brk ρ' => .next ρ' | o => o) = _
  unfold onR Out.fo
  cases tgt p ρ with
  | none => rfl
  | some ρ1 => cases body ρ1 <;> rfl
theorem cut_map {α β : Type} (f : α → β) (l : List α) (lo hi : Option Int) : cutG (l.map f) lo hi = (cutG l lo hi).map f := by
  unfold cutG
  rw [List.length_map, List.map_take, List.map_drop]
theorem cut_len {α : Type} (l : List α) (lo hi : Option Int) : (cutG l lo hi).length ≤ l.length := by
  unfold cutG
  rw [List.length_take, List.length_drop]
  omega
theorem cut_mem {α : Type} (l : List α) (lo hi : Option Int) : ∀ a ∈ cutG l lo hi, a ∈ l := fun a h => by
  unfold cutG at h
  exact (List.drop_sublist _ _).subset ((List.take_sublist _ _).subset h)
theorem sIx_none (n k : Nat) : HT.sIx n k none = k := rfl
theorem cut_take {α : Type} (l : List α) (k : Int) (h : 0 ≤ k) : cutG l none (some k) = l.take k.toNat := by
  unfold cutG
  have e : HT.sIx l.length l.length (some k) = min k.toNat l.length := by
    unfold HT.sIx; dsimp only; rw [if_neg (by omega)]
  rw [e, sIx_none, List.drop_zero, Nat.sub_zero]
  by_cases h2 : k.toNat ≤ l.length
  · rw [Nat.min_eq_left h2]
  · rw [Nat.min_eq_right (by omega), List.take_of_length_le (Nat.le_refl _), List.take_of_length_le (by omega)]
@[simp] theorem eSl_eq {g : PV → Option Int → Option Int → R PV} {f : Rho → R PV} {lo hi : Rho → R (Option Int)} {ρ : Rho} : eSl g f lo hi ρ = (f ρ).bind fun p => (lo ρ).bind fun l => (hi ρ).bind fun h => g p l h := nr rfl
@[simp] theorem oNone_eq {ρ : Rho} : oNone ρ = .ok none := nr rfl
@[simp] theorem oSome_eq {f : Rho → R PV} {ρ : Rho} : oSome f ρ = (f ρ).bind fun p => (asI p).bind fun i => .ok (some i) := nr rfl
@[simp] theorem slP_l {l : List PV} {lo hi : Option Int} : slP (.lst l) lo hi = .ok (.lst (cutG l lo hi)) := nr rfl
@[simp] theorem slP_f {l : List PV} {lo hi : Option Int} : slP (.frz l) lo hi = .ok (.lst (cutG l lo hi)) := nr rfl
@[simp] theorem slP_t {l : List PV} {lo hi : Option Int} : slP (.tup l) lo hi = .ok (.tup (cutG l lo hi)) := nr rfl
@[simp] theorem slL_l {l : List PV} {lo hi : Option Int} : slL (.lst l) lo hi = .ok (.lst (cutG l lo hi)) := nr rfl
@[simp] theorem tupleP_l {l : List PV} : tupleP [.lst l] = .ok (.tup l) := nr rfl
@[simp] theorem tupleP_t {l : List PV} : tupleP [.tup l] = .ok (.tup l) := nr rfl
@[simp] theorem tupleP_f {l : List PV} : tupleP [.frz l] = .ok (.tup l) := nr rfl
@[simp] theorem listP_l {l : List PV} : listP [.lst l] = .ok (.lst l) := nr rfl
@[simp] theorem listP_t {l : List PV} : listP [.tup l] = .ok (.lst l) := nr rfl
theorem addP_ok {a b : List PV} (h : a.length + b.length ≤ 1000000) : addP (.lst a) (.lst b) = .ok (.lst (a ++ b)) := by
  unfold addP; dsimp only; rw [if_pos (size_ok h)]
def figOk (p : Int) : PV → Bool
  | .int n => decide (0 ≤ n) && decide (n < p)
  | _ => false
theorem all_map (p : Int) (l : List PV) : (l.map (figOk p)).all id = l.all (figOk p) := by rw [List.all_map]; rfl
/-- the items of a written list or tuple of numbers -/
def SeqI (x : PV) (ds : List Int) : Prop := x = .lst (ds.map PV.int) ∨ x = .tup (ds.map PV.int)
theorem SeqI.ix {x : PV} {ds : List Int} (h : SeqI x ds) (k : Nat) (hk : k < ds.length) : ixP x (.int k) = .ok (.int (ds.getD k 0)) := by
  rcases h with rfl | rfl
  · exact ixP_lst (by omega) (getD_map ds _ (by omega))
  · exact ixP_tup (by omega) (getD_map ds _ (by omega))
theorem SeqI.len {x : PV} {ds : List Int} (h : SeqI x ds) : lenP [x] = .ok (.int ds.length) := by
  rcases h with rfl | rfl <;> simp
@[simp] theorem eqP_tt0 : eqP (.tup []) (.tup []) = .ok (.bl true) := by rw [eqP_ok (by simp) (by simp)]; simp
end PM
set_option Elab.async false
set_option linter.all false
set_option maxRecDepth 100000
set_option autoImplicit false
namespace PM
open PySem PySem.Spec L2 PL
open PyProof.Rows hiding St
@[simp] theorem sPar_eq {i j : Nat} {f g : Rho → R PV} {ρ : Rho} : sPar i j (aCons f (aCons g aNil)) ρ = (f ρ).st ρ fun p => (g ρ).st ρ fun q => .next ((ρ.set i (.val p)).set j (.val q)) := by
  unfold sPar aCons R.st
  cases f ρ with
  | exc c => rfl
  | stuck => rfl
  | ok p => cases g ρ <;> rfl
@[simp] theorem absP_i {a : Int} : absP [.int a] = .ok (.int a.natAbs) := by
  have e : absP [.int a] = .ok (.int (if a < 0 then -a else a)) := rfl
  rw [e]
  congr 2
  split <;> omega
/-- Euclid's loop, on whichever test of the other one -/
theorem gcd_run (test : Rho → R Bool) (ht : ∀ x y : Nat, test [.val (.int x), .val (.int y)] = .ok (decide (y ≠ 0))) : ∀ (y x : Nat),
    sWh test (bSeq (sPar 0 1 (aCons (eV 1) (aCons (e2 modP (eVo 0) (eVo 1)) aNil))) bNil) [.val (.int x), .val (.int y)] = .next [.val (.int (Nat.gcd x y)), .val (.int 0)] := by
  intro y
  induction y using Nat.strongRecOn with
  | _ y ih =>
    intro x
    rw [sWh_eq, ht]
    by_cases h : y = 0
    · subst h; simp
    · have hy : (0 : Int) < y := by omega
      have i := ih (x % y) (Nat.mod_lt x (by omega)) y
      have e : ((x : Int) % (y : Int)) = ((x % y : Nat) : Int) := by omega
      have g : Nat.gcd y (x % y) = Nat.gcd x y := by rw [Nat.gcd_comm x y, Nat.gcd_rec y x, Nat.gcd_comm (x % y) y]
      rw [g, ← e] at i
      simp [h, modP_pos hy, i]
theorem f_divisor (a b : Int) : F_divisor [.int a, .int b] = .ok (.int (Int.gcd a b)) := by
  show (D_divisor [.val (.int a), .val (.int b)]).res = _
  have r := gcd_run (tB1 (e2 gtP (eVo 1) (eC (.int 0)))) (fun x y => by
    have q : decide ((0 : Int) < (y : Int)) = decide (y ≠ 0) := by rw [decide_eq_decide]; omega
    simp only [tB1_eq, e2_eq, eVos, eVo0, eC_eq, bind1, gtP_ii, asB_eq, q]) b.natAbs a.natAbs
  simp only [D_divisor, bSeq_eq, sSet_eq, eD_eq, aCons_eq, aNil_eq, eVo0, eVos, bind1, absP_i, st_ok, then_next, List.set_cons_succ, List.set_cons_zero, r, sRet_eq, eV0, then_ret, res_ret]
  rfl
/-- the sign and the share -/
def fs (t b : Int) : Int := if b < 0 then -(Int.gcd t b : Int) else (Int.gcd t b : Int)
def ftop (t b : Int) : Int := t / fs t b
def fbot (t b : Int) : Int := b / fs t b
def fracV (t b : Int) : PV := .tup [.int t, .int b]
theorem gcd_pos {t b : Int} (hb : b ≠ 0) : 0 < Int.gcd t b := Int.gcd_pos_of_ne_zero_right t hb
theorem fs_dvd_t (t b : Int) : fs t b ∣ t := by
  unfold fs
  split
  · exact Int.neg_dvd.mpr (Int.gcd_dvd_left t b)
  · exact Int.gcd_dvd_left t b
theorem fs_dvd_b (t b : Int) : fs t b ∣ b := by
  unfold fs
  split
  · exact Int.neg_dvd.mpr (Int.gcd_dvd_right t b)
  · exact Int.gcd_dvd_right t b
theorem fs_ne {t b : Int} (hb : b ≠ 0) : fs t b ≠ 0 := by
  have := gcd_pos (t := t) hb
  unfold fs
  split <;> omega
theorem ftop_mul (t b : Int) : ftop t b * fs t b = t := Int.ediv_mul_cancel (fs_dvd_t t b)
theorem fbot_mul (t b : Int) : fbot t b * fs t b = b := Int.ediv_mul_cancel (fs_dvd_b t b)
theorem fbot_pos {t b : Int} (hb : b ≠ 0) : 0 < fbot t b := by
  have h := fbot_mul t b
  have hg := gcd_pos (t := t) hb
  rcases Int.lt_trichotomy (fbot t b) 0 with n | z | p
  · exfalso
    unfold fs at h
    split at h
    · have := Int.mul_pos_of_neg_of_neg n (show -(Int.gcd t b : Int) < 0 by omega)
      omega
    · have := Int.mul_neg_of_neg_of_pos n (show (0 : Int) < (Int.gcd t b : Int) by omega)
      omega
  · rw [z, Int.zero_mul] at h; exact absurd h.symm hb
  · exact p
theorem fcross (t b : Int) : ftop t b * b = t * fbot t b := by
  have h1 := ftop_mul t b
  have h2 := fbot_mul t b
  calc ftop t b * b = ftop t b * (fbot t b * fs t b) := by rw [h2]
    _ = (ftop t b * fs t b) * fbot t b := by rw [Int.mul_comm (fbot t b), Int.mul_assoc]
    _ = t * fbot t b := by rw [h1]
theorem flow {t b : Int} (hb : b ≠ 0) : Int.gcd (ftop t b) (fbot t b) = 1 := by
  have h1 := ftop_mul t b
  have h2 := fbot_mul t b
  have hg := gcd_pos (t := t) hb
  have e : Int.gcd (ftop t b * fs t b) (fbot t b * fs t b) = Int.gcd (ftop t b) (fbot t b) * (fs t b).natAbs := Int.gcd_mul_right ..
  rw [h1, h2] at e
  have e2 : (fs t b).natAbs = Int.gcd t b := by unfold fs; split <;> omega
  rw [e2] at e
  have : 1 * Int.gcd t b = Int.gcd (ftop t b) (fbot t b) * Int.gcd t b := by rw [Nat.one_mul]; exact e
  exact (Nat.eq_of_mul_eq_mul_right hg this).symm
theorem f_fraction (t b : Int) (hb : b ≠ 0) (hz : b.natAbs < 2 ^ 8000) : F_fraction [.int t, .int b] = .ok (fracV (ftop t b) (fbot t b)) := by
  refine (runF_eq (n := 3) (u := D_fraction)).trans ?_
  show (D_fraction [.val (.int t), .val (.int b), .un]).res = _
  have hg := gcd_pos (t := t) hb
  have hle : Int.gcd t b ≤ b.natAbs := Nat.le_of_dvd (by omega) (Int.gcd_dvd_natAbs_right t b)
  have hb' : (b == 0) = false := by simpa using hb
  have hzs : (fs t b).natAbs < 2 ^ 9000 := by
    have : (2 : Nat) ^ 8000 ≤ 2 ^ 9000 := Nat.pow_le_pow_right (by omega) (by omega)
    unfold fs; split <;> omega
  have d1 : fdivP (.int t) (.int (fs t b)) = .ok (.int (ftop t b)) := by
    rw [fdivP_ii (fs_ne hb) hzs, Int.fdiv_eq_ediv_of_dvd (fs_dvd_t t b)]; rfl
  have d2 : fdivP (.int b) (.int (fs t b)) = .ok (.int (fbot t b)) := by
    rw [fdivP_ii (fs_ne hb) hzs, Int.fdiv_eq_ediv_of_dvd (fs_dvd_b t b)]; rfl
  by_cases h : b < 0
  · have e : fs t b = -(Int.gcd t b : Int) := by unfold fs; rw [if_pos h]
    rw [e] at d1 d2
    simp [D_fraction, f_is_whole, hb', f_divisor, h, d1, d2, fracV]
  · have e : fs t b = (Int.gcd t b : Int) := by unfold fs; rw [if_neg h]
    rw [e] at d1 d2
    simp [D_fraction, f_is_whole, hb', f_divisor, h, d1, d2, fracV]
theorem mul_lt {a b : Int} {m n : Nat} (ha : a.natAbs < 2 ^ m) (hb : b.natAbs < 2 ^ n) {k : Nat} (hk : m + n ≤ k) : (a * b).natAbs < 2 ^ k := Nat.lt_of_lt_of_le (mul_bound ha hb) (Nat.pow_le_pow_right (by omega) hk)
theorem sz_le {a : Int} {m k : Nat} (ha : a.natAbs < 2 ^ m) (hk : m ≤ k) : a.natAbs < 2 ^ k := Nat.lt_of_lt_of_le ha (Nat.pow_le_pow_right (by omega) hk)
theorem val_ex (p : Int) (hp : 2 ≤ p) : ∀ (k : Nat) (n : Int), n.natAbs ≤ k → n ≠ 0 → ∃ (m : Int) (v : Nat), n = m * p ^ v ∧ m % p ≠ 0 := by
  intro k
  induction k with
  | zero => intro n h h0; omega
  | succ k ih =>
    intro n h h0
    by_cases hd : n % p = 0
    · have e : n / p * p = n := Int.ediv_mul_cancel (Int.dvd_of_emod_eq_zero hd)
      have hn : n / p ≠ 0 := fun z => by rw [z, Int.zero_mul] at e; exact h0 e.symm
      have hlt : (n / p).natAbs < n.natAbs := by
        have : n.natAbs = (n / p).natAbs * p.natAbs := by rw [← Int.natAbs_mul, e]
        have h1 : 0 < (n / p).natAbs := by omega
        have h2 : 2 ≤ p.natAbs := by omega
        have := Nat.mul_le_mul_left (n / p).natAbs h2
        omega
      obtain ⟨m, v, e2, hm⟩ := ih (n / p) (by omega) hn
      refine ⟨m, v + 1, ?_, hm⟩
      rw [Int.pow_succ, ← Int.mul_assoc, ← e2, e]
    · exact ⟨n, 0, by simp, hd⟩
/-- how often p divides n -/
noncomputable def vp (p n : Int) : Int := if h : 2 ≤ p ∧ n ≠ 0 then ((val_ex p h.1 n.natAbs n (Nat.le_refl _) h.2).choose_spec.choose : Nat) else 0
theorem vp_spec {p n : Int} (hp : 2 ≤ p) (hn : n ≠ 0) : ∃ (m : Int) (v : Nat), n = m * p ^ v ∧ m % p ≠ 0 ∧ vp p n = v := by
  have h : 2 ≤ p ∧ n ≠ 0 := ⟨hp, hn⟩
  have s := (val_ex p h.1 n.natAbs n (Nat.le_refl _) h.2).choose_spec.choose_spec
  exact ⟨_, _, s.1, s.2, by unfold vp; rw [dif_pos h]⟩
theorem f_exp {p n : Int} (hp : 2 ≤ p) (hp2 : p < 2 ^ 8000) (hn : n ≠ 0) : F_exponent [.int p, .int n] = .ok (.int (vp p n)) := by
  obtain ⟨m, v, e, hm, hv⟩ := vp_spec hp hn
  rw [hv]
  conv => lhs; rw [e]
  exact f_exponent p m hp hp2 hm v
theorem vp_uniq {p m n : Int} {u v : Nat} (hp : 2 ≤ p) (e : m * p ^ u = n * p ^ v) (hm : m % p ≠ 0) (hn : n % p ≠ 0) : u = v := by
  have key : ∀ {m n : Int} {u v : Nat}, m * p ^ u = n * p ^ v → m % p ≠ 0 → n % p ≠ 0 → u ≤ v := fun {m n u v} e hm hn => by
    refine Nat.le_of_not_lt fun h => hn ?_
    obtain ⟨k, rfl⟩ : ∃ k, u = v + (k + 1) := ⟨u - v - 1, by omega⟩
    rw [Int.pow_add, Int.mul_comm (p ^ v), ← Int.mul_assoc] at e
    have hpv : p ^ v ≠ 0 := Int.pow_ne_zero (by omega)
    have e2 := Int.eq_of_mul_eq_mul_right hpv e
    rw [← e2, Int.pow_succ, ← Int.mul_assoc]
    exact Int.mul_emod_left _ _
  exact Nat.le_antisymm (key e hm hn) (key e.symm hn hm)
end PM
namespace PM
theorem ftop_le {t b : Int} (hb : b ≠ 0) : (ftop t b).natAbs ≤ t.natAbs := by
  have h := congrArg Int.natAbs (ftop_mul t b)
  rw [Int.natAbs_mul] at h
  have : 1 ≤ (fs t b).natAbs := by have := fs_ne (t := t) hb; omega
  calc (ftop t b).natAbs = (ftop t b).natAbs * 1 := (Nat.mul_one _).symm
    _ ≤ (ftop t b).natAbs * (fs t b).natAbs := Nat.mul_le_mul_left _ this
    _ = t.natAbs := h
theorem fbot_le {t b : Int} (hb : b ≠ 0) : (fbot t b).natAbs ≤ b.natAbs := by
  have h := congrArg Int.natAbs (fbot_mul t b)
  rw [Int.natAbs_mul] at h
  have : 1 ≤ (fs t b).natAbs := by have := fs_ne (t := t) hb; omega
  calc (fbot t b).natAbs = (fbot t b).natAbs * 1 := (Nat.mul_one _).symm
    _ ≤ (fbot t b).natAbs * (fs t b).natAbs := Nat.mul_le_mul_left _ this
    _ = b.natAbs := h
end PM
namespace PM
open PySem PySem.Spec L2 PL
open PyProof.Rows hiding St
theorem stp {i : Nat} {f : Rho → R PV} {k : Rho → Out} {ρ : Rho} (p : PV) {r : R PV} (h : f ρ = .ok p) (g : (k (ρ.set i (.val p))).res = r) : (bSeq (sSet i f) k ρ).res = r := by
  rw [bSeq_eq, sSet_eq, h, st_ok, then_next]; exact g
theorem skp {t : Rho → R Bool} {u k : Rho → Out} {ρ : Rho} {r : R PV} (h : t ρ = .ok false) (g : (k ρ).res = r) : (bSeq (sIf t u bNil) k ρ).res = r := by
  rw [bSeq_eq, sIf_eq, h, stB_ok, if_neg Bool.false_ne_true, bNil_eq, then_next]; exact g
end PM
namespace PM
open PySem PySem.Spec L2 PL
open PyProof.Rows hiding St
@[simp] theorem isX0 {a : Addr} {b : Bool} {ρ : Rho} : isX 0 a b (.ex a :: ρ) = .ok (.bl b) := by
  have e : isX 0 a b (.ex a :: ρ) = (if a = a then .ok (.bl b) else .stuck) := rfl
  rw [e, if_pos rfl]
@[simp] theorem isXs {i : Nat} {a : Addr} {b : Bool} {s : Slot} {ρ : Rho} : isX (i + 1) a b (s :: ρ) = isX i a b ρ := by simp [isX]
@[simp] theorem hotCs {i : Nat} {a : Addr} {F : Addr → R PV} {s : Slot} {ρ : Rho} : hotC (i + 1) a F (s :: ρ) = hotC i a F ρ := by simp [hotC]
@[simp] theorem behind_next {i : Nat} {ρ : Rho} : behindX i (.next ρ) = .next (ρ.set i .un) := nr rfl
@[simp] theorem behind_ret {i : Nat} {p : PV} : behindX i (.ret p) = .ret p := nr rfl
end PM
set_option Elab.async false
set_option linter.all false
set_option maxRecDepth 100000
set_option autoImplicit false
set_option exponentiation.threshold 20000
namespace PM
open PySem PySem.Spec L2 PL
open PyProof.Rows hiding St
def Dg (p : Int) (ds : List Int) : Prop := ∀ d ∈ ds, 0 ≤ d ∧ d < p
def U (p : Int) : List Int → Int
  | [] => 0
  | d :: r => U p r * p + d
theorem pow_sz {p : Int} (hp : 2 ≤ p) (hp2 : p ≤ 97) (n : Nat) : (p ^ n).natAbs < 2 ^ (7 * n + 1) := pow_bound (m := 7) (by omega) n
/-- a left number in its form -/
structure Lf (p : Int) (ds : List Int) (n : Nat) : Prop where
  pr : p ∈ primesL
  dg : Dg p ds
  hd : ds.head? ≠ some 0
  len : ds.length ≤ n
theorem Lf.b {p : Int} {ds : List Int} {n : Nat} (h : Lf p ds n) : 2 ≤ p ∧ p ≤ 97 := primesL_le p h.pr
end PM
namespace PM
open PL
theorem log2_le_lt {a b m : Nat} (h : a ≤ b) (hb : b.log2 < m) : a.log2 < m := by
  by_cases h0 : a = 0
  · subst h0; rw [Nat.log2_zero]; omega
  · exact (Nat.log2_lt h0).mpr (Nat.lt_of_le_of_lt h ((Nat.log2_lt (by omega)).mp hb))
theorem okMul_log {a b : Int} {m n : Nat} (ha : a.natAbs.log2 < m) (hb : b.natAbs.log2 < n) (h : m + n ≤ 100000000) : okMul a b = true := decide_eq_true (by omega)
end PM
namespace PM
open PySem PySem.Spec L2 PL
open PyProof.Rows hiding St
end PM
namespace PM
open PySem PySem.Spec L2 PL
open PyProof.Rows hiding St
end PM
set_option Elab.async false
set_option linter.all false
set_option maxRecDepth 100000
set_option autoImplicit false
set_option exponentiation.threshold 20000
namespace PM
open PySem PySem.Spec L2 PL
open PyProof.Rows hiding St
/-- alike but for multiples -/
def Mo (m x y : Int) : Prop := ∃ z, x = y + m * z
theorem Mo.refl (m x : Int) : Mo m x x := ⟨0, by simp⟩
theorem Mo.of_eq {m x y : Int} (h : x = y) : Mo m x y := h ▸ Mo.refl m x
theorem Mo.symm {m x y : Int} (h : Mo m x y) : Mo m y x := by obtain ⟨z, h⟩ := h; exact ⟨-z, by grind⟩
theorem Mo.trans {m x y w : Int} (h : Mo m x y) (g : Mo m y w) : Mo m x w := by
  obtain ⟨z, h⟩ := h; obtain ⟨u, g⟩ := g; exact ⟨z + u, by grind⟩
theorem Mo.add {m x y u v : Int} (h : Mo m x y) (g : Mo m u v) : Mo m (x + u) (y + v) := by
  obtain ⟨z, h⟩ := h; obtain ⟨w, g⟩ := g; exact ⟨z + w, by grind⟩
theorem Mo.sub {m x y u v : Int} (h : Mo m x y) (g : Mo m u v) : Mo m (x - u) (y - v) := by
  obtain ⟨z, h⟩ := h; obtain ⟨w, g⟩ := g; exact ⟨z - w, by grind⟩
theorem Mo.mul {m x y u v : Int} (h : Mo m x y) (g : Mo m u v) : Mo m (x * u) (y * v) := by
  obtain ⟨z, h⟩ := h; obtain ⟨w, g⟩ := g; exact ⟨y * w + z * v + m * z * w, by subst h g; grind⟩
theorem Mo.dvd {m k x y : Int} (h : Mo (m * k) x y) : Mo m x y := by
  obtain ⟨z, h⟩ := h; exact ⟨k * z, by rw [h, Int.mul_assoc]⟩
theorem Mo.scale {m x y : Int} (k : Int) (h : Mo m x y) : Mo (m * k) (x * k) (y * k) := by
  obtain ⟨z, h⟩ := h; exact ⟨z, by subst h; grind⟩
theorem pow_split (p : Int) {a b : Nat} (h : a ≤ b) : p ^ b = p ^ a * p ^ (b - a) := by rw [← Int.pow_add]; congr 1; omega
theorem Mo.low {p x y : Int} {a b : Nat} (h : Mo (p ^ b) x y) (hab : a ≤ b) : Mo (p ^ a) x y := by
  rw [pow_split p hab] at h; exact h.dvd
/-- the figures' sum over a base -/
def V (p b e : Int) (ds : List Int) : Int := U p ds * p ^ (e - b).toNat
theorem V_self (p e : Int) (ds : List Int) : V p e e ds = U p ds := by unfold V; rw [Int.sub_self]; simp
theorem V_shift (p : Int) {b c e : Int} (ds : List Int) (h : b ≤ c) (h2 : c ≤ e) : V p b e ds = V p c e ds * p ^ (c - b).toNat := by
  unfold V; rw [Int.mul_assoc, ← Int.pow_add]; congr 2; omega
/-- one goes on where the other ends -/
structure Ext (p e' : Int) (ds' : List Int) (e : Int) (ds : List Int) : Prop where
  le : e ≤ e'
  en : e + ds.length ≤ e' + ds'.length
  mo : Mo (p ^ ds.length) (V p e e' ds') (U p ds)
theorem Ext.refl (p e : Int) (ds : List Int) : Ext p e ds e ds := ⟨Int.le_refl _, Int.le_refl _, by rw [V_self]; exact Mo.refl _ _⟩
theorem Ext.base {p e' e : Int} {ds' ds : List Int} (h : Ext p e' ds' e ds) {b : Int} (hb : b ≤ e) : Mo (p ^ (e + ds.length - b).toNat) (V p b e' ds') (V p b e ds) := by
  rw [V_shift p ds' hb h.le, V_shift p ds hb (Int.le_refl e), V_self, show (e + ds.length - b).toNat = ds.length + (e - b).toNat by omega, Int.pow_add]
  exact h.mo.scale _
end PM
namespace PM
open PySem PySem.Spec L2 PL
open PyProof.Rows hiding St
theorem prime_mul : ∀ p ∈ primesN, ∀ a : Nat, a < p → ∀ b : Nat, b < p → a ≠ 0 → b ≠ 0 → a * b % p ≠ 0 := by decide +kernel
theorem prime_mulI {p a b : Int} (hp : p ∈ primesL) (ha : a % p ≠ 0) (hb : b % p ≠ 0) : a * b % p ≠ 0 := by
  have hpb := primesL_le p hp
  rw [Int.mul_emod]
  have a1 := Int.emod_nonneg a (show p ≠ 0 by omega)
  have a2 := Int.emod_lt_of_pos a (show 0 < p by omega)
  have b1 := Int.emod_nonneg b (show p ≠ 0 by omega)
  have b2 := Int.emod_lt_of_pos b (show 0 < p by omega)
  have e2 : primesL = primesN.map fun (n : Nat) => (n : Int) := rfl
  rw [e2] at hp
  obtain ⟨n, hn, rfl⟩ := List.mem_map.mp hp
  obtain ⟨x, hx⟩ : ∃ x : Nat, a % (n : Int) = x := ⟨(a % (n : Int)).toNat, by omega⟩
  obtain ⟨y, hy⟩ : ∃ y : Nat, b % (n : Int) = y := ⟨(b % (n : Int)).toNat, by omega⟩
  rw [hx, hy]
  rw [hx] at ha a2
  rw [hy] at hb b2
  have := prime_mul n hn x (by omega) y (by omega) (by omega) (by omega)
  rw [← Int.natCast_mul, ← Int.natCast_emod]
  omega
end PM
namespace PM
open PySem PySem.Spec L2 PL
open PyProof.Rows hiding St
theorem Lf.le {p : Int} {ds : List Int} {n m : Nat} (h : Lf p ds n) (hm : n ≤ m) : Lf p ds m := ⟨h.pr, h.dg, h.hd, Nat.le_trans h.len hm⟩
end PM
set_option Elab.async false
set_option linter.all false
set_option maxRecDepth 100000
set_option autoImplicit false
set_option exponentiation.threshold 20000
namespace PM
open PySem PySem.Spec L2 PL
open PyProof.Rows hiding St
theorem prime_cop : ∀ p ∈ primesN, ∀ a : Nat, a < p → a ≠ 0 → Nat.gcd a p = 1 := by decide +kernel
theorem gcd_mod (a w : Int) : Int.gcd (a % w) w = Int.gcd a w := by
  have e : a = a % w + w * (a / w) := by have := Int.mul_ediv_add_emod a w; omega
  conv => rhs; rw [e]
  rw [Int.gcd_add_mul_left_left]
theorem prime_gcd {p a : Int} (hp : p ∈ primesL) (ha : a % p ≠ 0) (k : Nat) : Int.gcd a (p ^ k) = 1 := by
  have hpb := primesL_le p hp
  have e2 : primesL = primesN.map fun (n : Nat) => (n : Int) := rfl
  rw [e2] at hp
  obtain ⟨n, hn, rfl⟩ := List.mem_map.mp hp
  obtain ⟨x, hx⟩ : ∃ x : Nat, a % (n : Int) = x := ⟨(a % (n : Int)).toNat, by have := Int.emod_nonneg a (show (n : Int) ≠ 0 by omega); omega⟩
  have hlt := Int.emod_lt_of_pos a (show 0 < (n : Int) by omega)
  rw [hx] at ha hlt
  have g := prime_cop n hn x (by omega) (by omega)
  have e : Int.gcd a (n : Int) = 1 := by
    have h1 : Int.gcd (a % (n : Int)) (n : Int) = Int.gcd a (n : Int) := gcd_mod _ _
    rw [← h1, hx]; exact g
  have e3 : Nat.Coprime a.natAbs (n ^ k) := Nat.Coprime.pow_right k e
  show Nat.gcd a.natAbs ((n : Int) ^ k).natAbs = 1
  rw [Int.natAbs_pow]; exact e3
theorem le_of_mul_le {a x w : Int} (hx : 0 < x) (ha : 0 ≤ a) (h : a * x ≤ w) : a ≤ w := by
  have := Int.mul_le_mul_of_nonneg_left (show 1 ≤ x by omega) ha
  omega
end PM
namespace PM
open PySem PySem.Spec L2 PL
open PyProof.Rows hiding St
end PM
namespace PM
open PySem PySem.Spec L2 PL
open PyProof.Rows hiding St
end PM
set_option Elab.async false
set_option linter.all false
set_option maxRecDepth 100000
set_option autoImplicit false
set_option exponentiation.threshold 20000
namespace PM
open PySem PySem.Spec L2 PL
open PyProof.Rows hiding St
/-- two neighbours of the row of rests -/
structure Nb (W u z r s v w : Int) : Prop where
  cr : Mo W r (u * s)
  cv : Mo W v (u * w)
  sg : (0 < w ∧ s ≤ 0 ∧ r * w - v * s = W) ∨ (w < 0 ∧ 0 ≤ s ∧ r * w - v * s = -W)
  rz : z < r
  v0 : 0 ≤ v
  vr : v < r
  rW : r ≤ W
  sW : -W ≤ s ∧ s ≤ W
theorem Nb.wW {W u z r s v w : Int} (h : Nb W u z r s v w) (hz : 1 ≤ z) : -W ≤ w ∧ w ≤ W := by
  have hr := h.rz
  have v0 := h.v0
  have hW := h.rW
  rcases h.sg with ⟨h1, h2, h3⟩ | ⟨h1, h2, h3⟩
  · have : v * s ≤ 0 := Int.mul_nonpos_of_nonneg_of_nonpos v0 h2
    have := le_of_mul_le (a := w) (x := r) (w := W) (by omega) (by omega) (by rw [Int.mul_comm]; omega)
    omega
  · have e : 0 ≤ v * s := Int.mul_nonneg v0 h2
    have := le_of_mul_le (a := -w) (x := r) (w := W) (by omega) (by omega) (by rw [Int.neg_mul, Int.mul_comm]; omega)
    omega
theorem Nb.step {W u z r s v w : Int} (h : Nb W u z r s v w) (hz : 1 ≤ z) (hv : z < v) : Nb W u z v w (r % v) (s - r / v * w) := by
  have v0 := h.v0
  have vr := h.vr
  have rW := h.rW
  have ww := h.wW hz
  have q1 : 1 ≤ r / v := (Int.le_ediv_iff_mul_le (by omega)).mpr (by omega)
  have er : r / v * v + r % v = r := by have := Int.mul_ediv_add_emod r v; rw [Int.mul_comm] at this; exact this
  have m0 := Int.emod_nonneg r (show v ≠ 0 by omega)
  have m1 := Int.emod_lt_of_pos r (show 0 < v by omega)
  generalize r / v = q at *
  generalize r % v = m at *
  have det : v * (s - q * w) - m * w = -(r * w - v * s) := by rw [← er]; grind
  refine ⟨h.cv, ?_, ?_, hv, m0, m1, by omega, ww⟩
  · have t := h.cr.sub ((Mo.refl W q).mul h.cv)
    have e : r - q * v = m := by omega
    rw [e] at t
    exact t.trans (.of_eq (by grind))
  · rcases h.sg with ⟨h1, h2, h3⟩ | ⟨h1, h2, h3⟩
    · have : 1 * w ≤ q * w := Int.mul_le_mul_of_nonneg_right q1 (by omega)
      exact .inr ⟨by omega, by omega, by rw [det]; omega⟩
    · have : q * w ≤ 1 * w := Int.mul_le_mul_of_nonpos_right q1 (by omega)
      exact .inl ⟨by omega, by omega, by rw [det]; omega⟩
end PM
set_option Elab.async false
set_option linter.all false
set_option maxRecDepth 100000
set_option autoImplicit false
set_option exponentiation.threshold 20000
namespace PM
open PySem PySem.Spec L2 PL
open PyProof.Rows hiding St
theorem dvd_cop {y x b : Int} (h : y ∣ x * b) (g : Int.gcd y x = 1) : y ∣ b := by
  have h1 : y.natAbs ∣ x.natAbs * b.natAbs := by rw [← Int.natAbs_mul]; exact Int.natAbs_dvd_natAbs.mpr h
  exact Int.natAbs_dvd_natAbs.mp (Nat.Coprime.dvd_of_dvd_mul_left (k := y.natAbs) g h1)
end PM
namespace PM
open PySem PySem.Spec L2 PL
open PyProof.Rows hiding St
theorem stpFor {it : Rho → R (List PV)} {tgt : PV → Rho → Option Rho} {body k : Rho → Out} {ρ : Rho} {r : R PV} (items : List PV) (ρ' : Rho) (hi : it ρ = .ok items) (hf : forL tgt body items ρ = .next ρ') (g : (k ρ').res = r) : (bSeq (sFor it tgt body) k ρ).res = r := by
  rw [bSeq_eq, sFor_eq, hi, stL_ok, hf, then_next]; exact g
end PM
set_option Elab.async false
set_option linter.all false
set_option maxRecDepth 100000
set_option autoImplicit false
set_option exponentiation.threshold 20000
namespace PM
open PySem PySem.Spec L2 PL
open PyProof.Rows hiding St
end PM
set_option Elab.async false
set_option linter.all false
set_option maxRecDepth 100000
set_option autoImplicit false
set_option exponentiation.threshold 20000
namespace PM
open PySem PySem.Spec L2 PL
open PyProof.Rows hiding St
end PM
set_option Elab.async false
set_option linter.all false
set_option maxRecDepth 100000
set_option autoImplicit false
set_option exponentiation.threshold 20000
namespace PM
/-- the sum in A ^ n - B ^ n = (A - B) .. -/
def Gm (A B : Int) : Nat → Int
  | 0 => 0
  | n + 1 => A ^ n + B * Gm A B n
theorem Gm_eq (A B : Int) : ∀ n : Nat, A ^ n = B ^ n + (A - B) * Gm A B n
  | 0 => by simp [Gm]
  | n + 1 => by
    have ih := Gm_eq A B n
    have e : Gm A B (n + 1) = A ^ n + B * Gm A B n := rfl
    rw [e, Int.pow_succ, Int.pow_succ]
    grind
theorem pow_two_up (B D : Int) : ∀ n : Nat, ∃ w, (B + D) ^ (n + 1) = B ^ (n + 1) + (n + 1) * D * B ^ n + D * D * w
  | 0 => ⟨0, by simp [Int.pow_succ]⟩
  | n + 1 => by
    obtain ⟨w, h⟩ := pow_two_up B D n
    refine ⟨(n + 1) * B ^ n + w * (B + D), ?_⟩
    rw [Int.pow_succ, h, Int.pow_succ B (n + 1), Int.pow_succ B n]
    have e : ((n + 1 : Nat) : Int) = (n : Int) + 1 := by omega
    rw [e]
    grind
/-- modulo its square, twice -/
theorem Gm_mod2 (B D : Int) : ∀ n : Nat, ∃ w, 2 * Gm (B + D) B (n + 2) = 2 * (n + 2) * B ^ (n + 1) + (n + 2) * (n + 1) * D * B ^ n + 2 * (D * D) * w
  | 0 => ⟨0, by simp [Gm]; grind⟩
  | n + 1 => by
    obtain ⟨w, h⟩ := Gm_mod2 B D n
    obtain ⟨v, g⟩ := pow_two_up B D (n + 1)
    refine ⟨v + B * w, ?_⟩
    have e : Gm (B + D) B (n + 1 + 2) = (B + D) ^ (n + 2) + B * Gm (B + D) B (n + 2) := rfl
    have e2 : ((n + 1 : Nat) : Int) = (n : Int) + 1 := by omega
    rw [e, Int.mul_add, g, e2]
    rw [e2] at g
    have h' : 2 * (B * Gm (B + D) B (n + 2)) = B * (2 * (n + 2) * B ^ (n + 1) + (n + 2) * (n + 1) * D * B ^ n + 2 * (D * D) * w) := by rw [← h]; grind
    rw [h', Int.pow_succ B (n + 1), Int.pow_succ B n]
    grind
theorem pow_ne {p B : Int} (hp : p ∈ primesL) (hB : B % p ≠ 0) : ∀ n : Nat, B ^ n % p ≠ 0
  | 0 => by
    have := primesL_le p hp
    rw [Int.pow_zero, Int.emod_eq_of_lt (by omega) (by omega)]; omega
  | n + 1 => by rw [Int.pow_succ]; exact prime_mulI hp (pow_ne hp hB n) hB
theorem ne_add {p a b : Int} (ha : a % p ≠ 0) : (a + p * b) % p ≠ 0 := by rw [Int.add_mul_emod_self_left]; exact ha
theorem step_p {p B z : Int} (hp : p ∈ primesL) (hB : B % p ≠ 0) (j : Nat) (hj : 1 ≤ j) (h2 : p = 2 → 2 ≤ j) : ∃ g, Gm (B + p ^ j * z) B p.toNat = p * g ∧ g % p ≠ 0 := by
  have hpb := primesL_le p hp
  by_cases h : p = 2
  · subst h
    obtain ⟨i, rfl⟩ : ∃ i, j = i + 2 := ⟨j - 2, by have := h2 rfl; omega⟩
    refine ⟨B + 2 * (2 ^ i * z), ?_, ne_add hB⟩
    have e : (2 : Int) ^ (i + 2) = 4 * 2 ^ i := by rw [Int.pow_succ, Int.pow_succ]; grind
    rw [e]
    show (B + 4 * 2 ^ i * z) ^ 1 + B * ((B + 4 * 2 ^ i * z) ^ 0 + B * 0) = _
    rw [Int.pow_zero, Int.pow_succ, Int.pow_zero]
    grind
  · obtain ⟨n, hn⟩ : ∃ n, p.toNat = n + 2 := ⟨p.toNat - 2, by omega⟩
    obtain ⟨i, rfl⟩ : ∃ i, j = i + 1 := ⟨j - 1, by omega⟩
    obtain ⟨d, hd⟩ : ∃ d, d = p ^ i * z := ⟨_, rfl⟩
    have eD : p ^ (i + 1) * z = p * d := by rw [hd, Int.pow_succ]; grind
    obtain ⟨w, hw⟩ := Gm_mod2 B (p * d) n
    have ep : (n : Int) + 2 = p := by omega
    rw [ep] at hw
    have e1 : 2 * Gm (B + p * d) B (n + 2) = p * (2 * B ^ (n + 1) + p * ((n + 1) * d * B ^ n + 2 * d * d * w)) := by rw [hw]; grind
    have c2 : (2 : Int) % p ≠ 0 := by rw [Int.emod_eq_of_lt (by omega) (by omega)]; omega
    have dv : p ∣ Gm (B + p * d) B (n + 2) := dvd_cop (x := 2) ⟨_, e1⟩ (by
      have := prime_gcd hp c2 1
      rw [Int.pow_one, Int.gcd_comm] at this
      exact this)
    obtain ⟨g, hg⟩ := dv
    refine ⟨g, by rw [eD, hn]; exact hg, fun k => ?_⟩
    have e2 : 2 * g = 2 * B ^ (n + 1) + p * ((n + 1) * d * B ^ n + 2 * d * d * w) := by
      have : p * (2 * g) = p * (2 * B ^ (n + 1) + p * ((n + 1) * d * B ^ n + 2 * d * d * w)) := by rw [← e1, hg]; grind
      exact Int.eq_of_mul_eq_mul_left (by omega) this
    have e3 := ne_add (p := p) (b := (n + 1) * d * B ^ n + 2 * d * d * w) (prime_mulI hp c2 (pow_ne hp hB (n + 1)))
    rw [← e2, Int.mul_emod, k, Int.mul_zero, Int.zero_emod] at e3
    exact e3 rfl
theorem lte_t {p B : Int} (hp : p ∈ primesL) (hB : B % p ≠ 0) (j : Nat) (y : Int) (hj : 1 ≤ j) (h2 : p = 2 → 2 ≤ j) : ∀ t : Nat, ∃ y', (B + p ^ j * y) ^ (p.toNat ^ t) = B ^ (p.toNat ^ t) + p ^ (j + t) * y' ∧ (y % p ≠ 0 → y' % p ≠ 0)
  | 0 => ⟨y, by simp [Int.pow_succ], fun h => h⟩
  | t + 1 => by
    obtain ⟨y', e, h⟩ := lte_t hp hB j y hj h2 t
    have hB1 := pow_ne hp hB (p.toNat ^ t)
    obtain ⟨g, g1, g2⟩ := step_p (z := y') hp hB1 (j + t) (by omega) (fun k => by have := h2 k; omega)
    have q := Gm_eq (B ^ (p.toNat ^ t) + p ^ (j + t) * y') (B ^ (p.toNat ^ t)) p.toNat
    refine ⟨y' * g, ?_, fun k => prime_mulI hp (h k) g2⟩
    rw [Nat.pow_succ, Int.pow_mul, Int.pow_mul, e, q, g1, show j + (t + 1) = j + t + 1 by omega, Int.pow_succ]
    grind
end PM
namespace PM
open PySem PySem.Spec L2 PL
open PyProof.Rows hiding St
end PM
set_option Elab.async false
set_option linter.all false
set_option maxRecDepth 100000
set_option autoImplicit false
set_option exponentiation.threshold 20000
namespace PM
open PySem PySem.Spec L2 PL
open PyProof.Rows hiding St
end PM
set_option Elab.async false
set_option linter.all false
set_option maxRecDepth 100000
set_option autoImplicit false
set_option exponentiation.threshold 20000
namespace PM
open PySem PySem.Spec L2 PL
open PyProof.Rows hiding St
theorem stpN {c k : Rho → Out} {ρ ρ' : Rho} {r : R PV} (h : c ρ = .next ρ') (g : (k ρ').res = r) : (bSeq c k ρ).res = r := by
  rw [bSeq_eq, h, then_next]; exact g
end PM
set_option Elab.async false
set_option linter.all false
set_option maxRecDepth 100000
set_option autoImplicit false
set_option exponentiation.threshold 20000
namespace PM
open PySem PySem.Spec L2 PL
open PyProof.Rows hiding St
end PM
set_option Elab.async false
set_option linter.all false
set_option maxRecDepth 100000
set_option autoImplicit false
set_option exponentiation.threshold 20000
namespace PM
open PySem PySem.Spec L2 PL
open PyProof.Rows hiding St
end PM
set_option Elab.async false
set_option linter.all false
set_option maxRecDepth 100000
set_option autoImplicit false
set_option exponentiation.threshold 20000
namespace PM
open PySem PySem.Spec L2 PL
open PyProof.Rows hiding St
@[simp] theorem sMut0_eq {i : Nat} {g : List PV → R (List PV)} {ρ : Rho} : sMut0 i g ρ = onOwn (getOwn ρ i) fun ps => R.own (g ps) ρ i := by
  unfold sMut0 getOwn
  cases ρ[i]? with
  | none => rfl
  | some t => cases t <;> rfl
@[simp] theorem clearP_eq {ps : List PV} : clearP ps = .ok [] := nr rfl
theorem popP_eq {ps : List PV} (h : ps ≠ []) : popP ps = .ok ps.dropLast := by
  cases ps with
  | nil => exact absurd rfl h
  | cons p r => rfl
def onSome {α : Type} (o : Option α) (k : α → Out) : Out := match o with
  | some a => k a
  | none => .stuck
@[simp] theorem onSome_some {α : Type} {a : α} {k : α → Out} : onSome (some a) k = k a := nr rfl
@[simp] theorem sAugI_eq {i : Nat} {fi f : Rho → R PV} {ρ : Rho} : sAugI i fi f ρ = onOwn (getOwn ρ i) fun ps => (fi ρ).st ρ fun q => onSome (getN ps q) fun x => (f ρ).st ρ fun y => R.own (augN ps q x y) ρ i := by
  unfold sAugI getOwn
  cases ρ[i]? with
  | none => rfl
  | some t => cases t with
    | own ps =>
      dsimp only [onOwn, sE]
      cases fi ρ with
      | stuck => rfl
      | exc c => rfl
      | ok q =>
        dsimp only [R.st]
        cases getN ps q with
        | none => rfl
        | some x =>
          dsimp only [onSome, sE]
          cases f ρ <;> rfl
    | _ => rfl
end PM
set_option Elab.async false
set_option linter.all false
set_option maxRecDepth 100000
set_option autoImplicit false
set_option exponentiation.threshold 20000
namespace PM
open PySem PySem.Spec L2 PL
open PyProof.Rows hiding St
mutual
theorem eqV_self : ∀ (n : Nat) (p : PV), okD n p = true → eqV' p p = true
  | _, .non, _ => rfl
  | _, .bl b, _ => by simp [eqV']
  | _, .int i, _ => by simp [eqV']
  | _, .str s, _ => by simp [eqV']
  | 0, .tup l, h => by simp [okD] at h
  | n + 1, .tup l, h => by rw [eqV']; exact eqVs_self n l (by simpa [okD] using h)
  | 0, .lst l, h => by simp [okD] at h
  | n + 1, .lst l, h => by rw [eqV']; exact eqVs_self n l (by simpa [okD] using h)
  | 0, .frz l, h => by simp [okD] at h
  | n + 1, .frz l, h => by rw [eqV']; exact eqVs_self n l (by simpa [okD] using h)
  | n, .dct, h => by cases n <;> simp [okD] at h
theorem eqVs_self : ∀ (n : Nat) (l : List PV), (∀ x ∈ l, okD n x = true) → eqVs l l = true
  | _, [], _ => by rw [eqVs]
  | n, p :: l, h => by rw [eqVs, eqV_self n p (h p List.mem_cons_self), eqVs_self n l fun x hx => h x (List.mem_cons_of_mem _ hx)]; rfl
end
theorem eqP_self {p : PV} (h : okD 30 p = true) : eqP p p = .ok (.bl true) := by rw [eqP_ok h h, eqV_self 30 p h]
theorem neP_self {p : PV} (h : okD 30 p = true) : neP p p = .ok (.bl false) := by rw [neP_ok h h, eqV_self 30 p h]; rfl
theorem ixP_neg {l : List PV} {x : PV} {k : Nat} (hk : 1 ≤ k) (h : k ≤ l.length) (hx : l[l.length - k]? = some x) : ixP (.lst l) (.int (-(k : Int))) = .ok x := by
  have e : atI l (-(k : Int)) = some x := by
    unfold atI ixN
    rw [if_neg (by omega), if_pos (by omega), Option.bind_some, show (-(k : Int) + l.length).toNat = l.length - k by omega, hx]
  unfold ixP
  dsimp only
  rw [e]
theorem ixP_last (l : List PV) (x : PV) : ixP (.lst (l ++ [x])) (.int (-1)) = .ok x := ixP_neg (k := 1) (by omega) (by simp) (by simp)
theorem ixP_last2 (l : List PV) (x y : PV) : ixP (.lst (l ++ [x, y])) (.int (-2)) = .ok x := ixP_neg (k := 2) (by omega) (by simp) (by simp)
theorem ixP_last1 (l : List PV) (x y : PV) : ixP (.lst (l ++ [x, y])) (.int (-1)) = .ok y := ixP_neg (k := 1) (by omega) (by simp) (by simp)
def PolyI (as : List Int) : Prop := 2 ≤ as.length ∧ as.length ≤ 9 ∧ as.getLast? ≠ some 0
theorem whole_lc (as : List Int) (x : PV) : lcGo (gN 1) cYes (eD F_is_whole (aCons (eV 1) aNil)) [.val x, .un] (as.map PV.int) = .ok ((as.map fun _ => true).map PV.bl) := by
  rw [show (as.map fun _ => true).map PV.bl = (as.map PV.int).map fun _ => PV.bl true by simp]
  refine lcGo_map _ _ fun q hq => ⟨_, rfl, ?_⟩
  obtain ⟨d, _, rfl⟩ := List.mem_map.mp hq
  simp [f_is_whole, isW]
theorem f_is_poly_i (as : List Int) (h2 : 2 ≤ as.length) (h9 : as.length ≤ 9) : F_is_poly [.lst (as.map PV.int)] = .ok (.bl (decide (as.getLast? ≠ some 0))) := by
  refine (runF_eq (n := 2) (u := D_is_poly)).trans ?_
  show (D_is_poly [.val (.lst (as.map PV.int)), .un]).res = _
  have ln : lenP [.lst (as.map PV.int)] = .ok (.int as.length) := by simp
  have il : isiP "list" (.lst (as.map PV.int)) = .ok (.bl true) := by
    have e : kitB "list" "list" = some true := by decide +kernel
    unfold isiP tyN
    rw [e]
  have L := eLc_ok (vs := [1]) (it := iS (eV 0)) (ρ := [.val (.lst (as.map PV.int)), .un]) (items := as.map PV.int) rfl (by simp) (by simp; omega) (whole_lc as (.lst (as.map PV.int)))
  have al : allP [.lst ((as.map fun _ => true).map PV.bl)] = .ok (.bl true) := by rw [allP_bl, show (as.map fun _ => true).all id = true by simp]
  obtain ⟨l, x, rfl⟩ : ∃ l x, as = l ++ [x] := ⟨as.dropLast, as.getLast (by intro z; rw [z] at h2; simp at h2), (List.dropLast_concat_getLast _).symm⟩
  have lx : ixP (.lst ((l ++ [x]).map PV.int)) (.int (-1)) = .ok (.int x) := by rw [List.map_append]; exact ixP_last _ _
  have c1 : ¬ (((l ++ [x]).length : Int) < 2) := by omega
  have c2 : ¬ ((9 : Int) < ((l ++ [x]).length : Int)) := by omega
  unfold D_is_poly
  refine skp (by simp only [tOr_eq, tNt_eq, tB1_eq, e1_eq, e2_eq, eD_eq, aCons_eq, aNil_eq, eC_eq, eVo0, bind1, il, ln, asB_eq, Bool.not_true, if_neg Bool.false_ne_true, ltP_ii, gtP_ii, decide_eq_false c1, gt_iff_lt, decide_eq_false c2]) ?_
  simp only [bSeq_eq, sRet_eq, eAn_eq, eD_eq, aCons_eq, aNil_eq, L, bind1, al, asB_eq, if_true, e2_eq, e1_eq, eC_eq, eVo0, negP_eq, lx, neP_ii, st_ok, then_ret, res_ret]
  congr 2
  rw [List.getLast?_append]
  simp [bne]
  rw [Bool.eq_iff_iff, beq_iff_eq, decide_eq_true_eq]
theorem f_is_poly_ok {as : List Int} (h : PolyI as) : F_is_poly [.lst (as.map PV.int)] = .ok (.bl true) := by rw [f_is_poly_i as h.1 h.2.1, decide_eq_true h.2.2]
abbrev Pt := Int × Int
def ptV (q : Pt) : PV := .tup [.int q.1, .int q.2]
noncomputable def pts (p : Int) : Nat → List Int → List Pt
  | _, [] => []
  | n, a :: r => if a = 0 then pts p (n + 1) r else ((n : Int), vp p a) :: pts p (n + 1) r
theorem pts_cons0 (p : Int) (n : Nat) (r : List Int) : pts p n (0 :: r) = pts p (n + 1) r := by rw [pts, if_pos rfl]
theorem pts_cons (p : Int) (n : Nat) {a : Int} (r : List Int) (h : a ≠ 0) : pts p n (a :: r) = ((n : Int), vp p a) :: pts p (n + 1) r := by rw [pts, if_neg h]
theorem tupP2' (a b : Int) : tupP [.int a, .int b] = .ok (ptV (a, b)) := tupP_ok (by simp)
theorem points_lc {p : Int} (hp : 2 ≤ p) (hp2 : p < 2 ^ 8000) (x : PV) : ∀ (as : List Int) (n : Nat),
    lcGo (gT (gsCons (gN 2) (gsCons (gN 3) gsNil))) (tB1 (e2 neP (eVo 3) (eC (.int 0)))) (eD tupP (aCons (eV 2) (aCons (eD F_exponent (aCons (eV 0) (aCons (eV 3) aNil))) aNil))) [.val (.int p), .val x, .un, .un] (enumL n (as.map PV.int)) = .ok ((pts p n as).map ptV)
  | [], n => by rw [List.map_nil, enumL]; rfl
  | a :: r, n => by
    have ih := points_lc hp hp2 x r (n + 1)
    rw [List.map_cons, enumL, lcGo]
    have g : gT (gsCons (gN 2) (gsCons (gN 3) gsNil)) (.tup [.int (n : Nat), .int a]) [.val (.int p), .val x, .un, .un] = some [.val (.int p), .val x, .val (.int n), .val (.int a)] := rfl
    rw [g]
    dsimp only
    by_cases h : a = 0
    · subst h
      have t : tB1 (e2 neP (eVo 3) (eC (.int 0))) [.val (.int p), .val x, .val (.int n), .val (.int 0)] = .ok false := by simp
      rw [t, pts_cons0]
      exact ih
    · have t : tB1 (e2 neP (eVo 3) (eC (.int 0))) [.val (.int p), .val x, .val (.int n), .val (.int a)] = .ok true := by simp [h]
      have e : eD tupP (aCons (eV 2) (aCons (eD F_exponent (aCons (eV 0) (aCons (eV 3) aNil))) aNil)) [.val (.int p), .val x, .val (.int n), .val (.int a)] = .ok (ptV (n, vp p a)) := by
        simp only [eD_eq, aCons_eq, aNil_eq, eV0, eVs, bind1, f_exp hp hp2 h, tupP2']
      rw [t]
      dsimp only
      rw [e]
      dsimp only
      rw [ih, pts_cons p n r h, List.map_cons]
theorem enum_len (as : List Int) (n : Nat) : (enumL n (as.map PV.int)).length = as.length := by rw [enumL_len, List.length_map]
theorem f_points {p : Int} (hp : p ∈ primesL) {as : List Int} (h : PolyI as) : F_points_of [.int p, .lst (as.map PV.int)] = .ok (.lst ((pts p 0 as).map ptV)) := by
  have hpb := primesL_le p hp
  refine (runF_eq (n := 4) (u := D_points_of)).trans ?_
  show (D_points_of [.val (.int p), .val (.lst (as.map PV.int)), .un, .un]).res = _
  have hp' : isP (.int p) = true := by simp [isP, hp]
  have L := eLc_ok (vs := [2, 3]) (it := iEn (eV 1)) (ρ := [.val (.int p), .val (.lst (as.map PV.int)), .un, .un]) (items := enumL 0 (as.map PV.int)) rfl (by simp [iEn]) (by rw [enum_len]; have := h.2.1; omega) (points_lc hpb.1 (by omega) (.lst (as.map PV.int)) as 0)
  unfold D_points_of
  refine skp (by simp [f_is_prime, hp']) ?_
  refine skp (by simp only [tNt_eq, tB1_eq, eD_eq, aCons_eq, aNil_eq, eV0, eVs, bind1, f_is_poly_ok h, asB_eq, Bool.not_true]) ?_
  simp only [bSeq_eq, sRet_eq, L, st_ok, then_ret, res_ret]
def ndl (a b c : Pt) : Bool := decide ((b.2 - a.2) * (c.1 - a.1) ≥ (c.2 - a.2) * (b.1 - a.1))
def popW : List Pt → Pt → List Pt
  | b :: a :: r, c => if ndl a b c = true then popW (a :: r) c else b :: a :: r
  | s, _ => s
def hullS (S s : List Pt) : List Pt := S.foldl (fun s c => c :: popW s c) s
def hull (S : List Pt) : List Pt := (hullS S []).reverse
def Sm (q : Pt) : Prop := q.1.natAbs < 2 ^ 100 ∧ q.2.natAbs < 2 ^ 100
theorem ptV0 (q : Pt) : ixP (ptV q) (.int 0) = .ok (.int q.1) := by simp [ptV]
theorem ptV1 (q : Pt) : ixP (ptV q) (.int 1) = .ok (.int q.2) := by simp [ptV]
theorem mul_sm {a b c d : Int} (ha : a.natAbs < 2 ^ 100) (hb : b.natAbs < 2 ^ 100) (hc : c.natAbs < 2 ^ 100) (hd : d.natAbs < 2 ^ 100) : mulP (.int (a - b)) (.int (c - d)) = .ok (.int ((a - b) * (c - d))) :=
  mulP_ii (okMul_of (m := 101) (n := 101) (by omega) (by omega) (by omega) (by omega) (by omega))
theorem f_needless (a b c : Pt) (ha : Sm a) (hb : Sm b) (hc : Sm c) : F_is_needless [ptV a, ptV b, ptV c] = .ok (.bl (ndl a b c)) := by
  refine (runF_eq (n := 3) (u := D_is_needless)).trans ?_
  show (D_is_needless [.val (ptV a), .val (ptV b), .val (ptV c)]).res = _
  simp only [D_is_needless, bSeq_eq, sRet_eq, e2_eq, eC_eq, eVo0, eVos, bind1, ptV0, ptV1, subP_ii, mul_sm hb.2 ha.2 hc.1 ha.1, mul_sm hc.2 ha.2 hb.1 ha.1, geP_ii, st_ok, then_ret, res_ret]
  rfl
theorem pop_run (x y : PV) (c : Pt) (hc : Sm c) : ∀ s : List Pt, (∀ q ∈ s, Sm q) → s.length ≤ 1000 →
    sWh (tAn (tB1 (e2 gtP (eD lenP (aCons (eVo 2) aNil)) (eC (.int 1)))) (tB1 (eD F_is_needless (aCons (e2 ixP (eVo 2) (e1 negP (eC (.int 2)))) (aCons (e2 ixP (eVo 2) (e1 negP (eC (.int 1)))) (aCons (eV 3) aNil)))))) (bSeq (sMut0 2 popP) bNil) [.val x, .val y, .own (s.reverse.map ptV), .val (ptV c)] = .next [.val x, .val y, .own ((popW s c).reverse.map ptV), .val (ptV c)]
  | [], _, _ => by rw [sWh_eq]; simp [popW]
  | [a], _, _ => by rw [sWh_eq]; simp [popW]
  | b :: a :: r, hs, hl => by
    have e : (b :: a :: r).reverse.map ptV = r.reverse.map ptV ++ [ptV a, ptV b] := by simp
    have x1 := ixP_last1 (r.reverse.map ptV) (ptV a) (ptV b)
    have x2 := ixP_last2 (r.reverse.map ptV) (ptV a) (ptV b)
    have n := f_needless a b c (hs a (by simp)) (hs b (by simp)) hc
    have ln : lenP [.lst (r.reverse.map ptV ++ [ptV a, ptV b])] = .ok (.int ((r.length : Int) + 2)) := by simp
    have g : decide ((r.length : Int) + 2 > 1) = true := decide_eq_true (by omega)
    have t : tAn (tB1 (e2 gtP (eD lenP (aCons (eVo 2) aNil)) (eC (.int 1)))) (tB1 (eD F_is_needless (aCons (e2 ixP (eVo 2) (e1 negP (eC (.int 2)))) (aCons (e2 ixP (eVo 2) (e1 negP (eC (.int 1)))) (aCons (eV 3) aNil))))) [.val x, .val y, .own (r.reverse.map ptV ++ [ptV a, ptV b]), .val (ptV c)] = .ok (ndl a b c) := by
      simp only [tAn_eq, tB1_eq, e2_eq, e1_eq, eD_eq, aCons_eq, aNil_eq, eC_eq, eV0, eVs, eVo0, eVo0', eVos, bind1, ln, gtP_ii, g, asB_eq, if_true, negP_eq, x1, x2, n]
    rw [sWh_eq, e, t]
    cases hn : ndl a b c with
    | false =>
      rw [popW, hn, if_neg Bool.false_ne_true, e]
    | true =>
      have ih := pop_run x y c hc (a :: r) (fun q hq => hs q (List.mem_cons_of_mem _ hq)) (by simp at hl ⊢; omega)
      have dl : popP (r.reverse.map ptV ++ [ptV a, ptV b]) = .ok ((a :: r).reverse.map ptV) := by
        rw [popP_eq (by simp)]
        congr 1
        rw [show r.reverse.map ptV ++ [ptV a, ptV b] = (r.reverse.map ptV ++ [ptV a]) ++ [ptV b] by simp, List.dropLast_concat]
        simp
      rw [popW, hn, if_pos rfl, ← ih]
      simp only [bSeq_eq, sMut0_eq, getOwn0, getOwnS, onOwn_some, dl, own_ok, List.set_cons_succ, List.set_cons_zero, then_next, bNil_eq]
theorem popW_sub (c : Pt) : ∀ s : List Pt, ∀ q ∈ popW s c, q ∈ s
  | [], _, h => h
  | [a], _, h => h
  | b :: a :: r, q, h => by
    rw [popW] at h
    split at h
    · exact List.mem_cons_of_mem _ (popW_sub c (a :: r) q h)
    · exact h
theorem popW_len (c : Pt) : ∀ s : List Pt, (popW s c).length ≤ s.length
  | [] => Nat.le_refl _
  | [a] => Nat.le_refl _
  | b :: a :: r => by
    rw [popW]
    split
    · have := popW_len c (a :: r)
      simp at this ⊢; omega
    · exact Nat.le_refl _
theorem corner_loop (x y : PV) : ∀ (S s : List Pt) (s3 : Slot), (∀ q ∈ S, Sm q) → (∀ q ∈ s, Sm q) → s.length + S.length ≤ 1000 → ∃ s3',
    forL (gN 3) (bSeq (sWh (tAn (tB1 (e2 gtP (eD lenP (aCons (eVo 2) aNil)) (eC (.int 1)))) (tB1 (eD F_is_needless (aCons (e2 ixP (eVo 2) (e1 negP (eC (.int 2)))) (aCons (e2 ixP (eVo 2) (e1 negP (eC (.int 1)))) (aCons (eV 3) aNil)))))) (bSeq (sMut0 2 popP) bNil)) (bSeq (sMut 2 appP (eV 3)) bNil)) (S.map ptV) [.val x, .val y, .own (s.reverse.map ptV), s3] = .next [.val x, .val y, .own ((hullS S s).reverse.map ptV), s3']
  | [], s, s3, _, _, _ => ⟨s3, by rw [List.map_nil, forL_nil]; rfl⟩
  | c :: S, s, s3, hS, hs, hl => by
    rw [List.length_cons] at hl
    have hc := hS c List.mem_cons_self
    have w := pop_run x y c hc s hs (by omega)
    have pl := popW_len c s
    have ap : appP ((popW s c).reverse.map ptV) (ptV c) = .ok ((c :: popW s c).reverse.map ptV) := by rw [appP_ok (by simp; omega)]; simp
    obtain ⟨s3', ih⟩ := corner_loop x y S (c :: popW s c) (.val (ptV c)) (fun q hq => hS q (List.mem_cons_of_mem _ hq)) (fun q hq => by
      rcases List.mem_cons.mp hq with rfl | hq
      · exact hc
      · exact hs q (popW_sub c s q hq)) (by rw [List.length_cons]; omega)
    refine ⟨s3', ?_⟩
    rw [show hullS (c :: S) s = hullS S (c :: popW s c) from rfl, ← ih, List.map_cons, forL_cons, gN_eq, onR_some]
    simp only [List.set_cons_succ, List.set_cons_zero]
    rw [bSeq_eq, w, then_next]
    simp only [bSeq_eq, sMut_eq, getOwn0, getOwnS, onOwn_some, eV0, eVs, st_ok, ap, own_ok, List.set_cons_succ, List.set_cons_zero, then_next, bNil_eq, fo_next]
theorem f_corners_of {x y : PV} {S : List Pt} (h : F_points_of [x, y] = .ok (.lst (S.map ptV))) (hS : ∀ q ∈ S, Sm q) (hl : S.length ≤ 1000) : F_corners_of [x, y] = .ok (.lst ((hull S).map ptV)) := by
  refine (runF_eq (n := 4) (u := D_corners_of)).trans ?_
  show (D_corners_of [.val x, .val y, .un, .un]).res = _
  have t0 : lstP [] = .ok (.lst []) := lstP_ok (by simp)
  obtain ⟨s3, lp⟩ := corner_loop x y S [] .un hS (fun _ z => nomatch z) (by simp; omega)
  unfold D_corners_of
  refine stpN (ρ' := [.val x, .val y, .own [], .un]) (by simp [t0]) ?_
  refine stpFor (S.map ptV) _ (by simp [h]) lp ?_
  simp [hull]
def Abv (q a b : Pt) : Prop := (b.2 - a.2) * (q.1 - a.1) ≤ (q.2 - a.2) * (b.1 - a.1)
def Rises (a b c : Pt) : Prop := (b.2 - a.2) * (c.1 - b.1) < (c.2 - b.2) * (b.1 - a.1)
theorem abv_left {a b c q : Pt} (h : Abv q a b) (hb : Abv b a c) (h1 : a.1 ≤ q.1) (h2 : q.1 ≤ b.1) (h3 : a.1 < b.1) (h4 : b.1 < c.1) : Abv q a c := by
  unfold Abv at *
  obtain ⟨x, hx⟩ : ∃ x, x = q.1 - a.1 := ⟨_, rfl⟩
  obtain ⟨y, hy⟩ : ∃ y, y = b.1 - a.1 := ⟨_, rfl⟩
  obtain ⟨z, hz⟩ : ∃ z, z = c.1 - a.1 := ⟨_, rfl⟩
  rw [← hx, ← hy] at h
  rw [← hy, ← hz] at hb
  rw [← hx, ← hz]
  have m1 := Int.mul_le_mul_of_nonneg_right h (show 0 ≤ z by omega)
  have m2 := Int.mul_le_mul_of_nonneg_right hb (show 0 ≤ x by omega)
  refine Int.le_of_mul_le_mul_right (a := y) ?_ (by omega)
  grind
theorem abv_right {a b c q : Pt} (h : Abv q b c) (hb : Abv b a c) (h1 : b.1 ≤ q.1) (h2 : q.1 ≤ c.1) (h3 : a.1 < b.1) (h4 : b.1 < c.1) : Abv q a c := by
  unfold Abv at *
  obtain ⟨x, hx⟩ : ∃ x, x = c.1 - q.1 := ⟨_, rfl⟩
  obtain ⟨y, hy⟩ : ∃ y, y = c.1 - b.1 := ⟨_, rfl⟩
  obtain ⟨z, hz⟩ : ∃ z, z = c.1 - a.1 := ⟨_, rfl⟩
  have e1 : q.1 = c.1 - x := by omega
  have e2 : b.1 = c.1 - y := by omega
  have e3 : a.1 = c.1 - z := by omega
  rw [e1, e2] at h
  rw [e2, e3] at hb
  rw [e1, e3]
  have m1 := Int.mul_le_mul_of_nonneg_right h (show 0 ≤ z by omega)
  have m2 := Int.mul_le_mul_of_nonneg_right hb (show 0 ≤ x by omega)
  refine Int.le_of_mul_le_mul_right (a := y) ?_ (by omega)
  grind
theorem abv_self_l (a b : Pt) : Abv a a b := by unfold Abv; rw [Int.sub_self, Int.mul_zero, Int.sub_self, Int.zero_mul]; exact Int.le_refl _
theorem abv_self_r (a b : Pt) : Abv b a b := Int.le_refl _
/-- the stack, its last point first, of a list of points -/
def Cv (S : List Pt) : List Pt → Prop
  | [] => True
  | [a] => a ∈ S
  | b :: a :: r => b ∈ S ∧ a.1 < b.1 ∧ (∀ q ∈ S, a.1 ≤ q.1 → q.1 ≤ b.1 → Abv q a b) ∧ (∀ z, r.head? = some z → Rises z a b) ∧ Cv S (a :: r)
theorem Cv.mem {S : List Pt} : ∀ {s : List Pt}, Cv S s → ∀ q ∈ s, q ∈ S
  | [], _, _, h => nomatch h
  | [a], h, q, hq => by rw [List.mem_singleton.mp hq]; exact h
  | b :: a :: r, h, q, hq => by
    rcases List.mem_cons.mp hq with rfl | hq
    · exact h.1
    · exact Cv.mem h.2.2.2.2 q hq
theorem Cv.more {S : List Pt} {c : Pt} (hS : ∀ q ∈ S, q.1 < c.1) : ∀ {s : List Pt}, Cv S s → Cv (S ++ [c]) s
  | [], _ => trivial
  | [a], h => List.mem_append_left _ h
  | b :: a :: r, h => by
    refine ⟨List.mem_append_left _ h.1, h.2.1, fun q hq h1 h2 => ?_, h.2.2.2.1, Cv.more hS h.2.2.2.2⟩
    rcases List.mem_append.mp hq with hq | hq
    · exact h.2.2.1 q hq h1 h2
    · rw [List.mem_singleton.mp hq] at h2
      have := hS b h.1
      omega
theorem not_ndl {a b c : Pt} (h : ndl a b c = false) : (b.2 - a.2) * (c.1 - a.1) < (c.2 - a.2) * (b.1 - a.1) := by
  unfold ndl at h
  have := of_decide_eq_false h
  omega
theorem rises_of {a b c : Pt} (h : ndl a b c = false) : Rises a b c := by
  have := not_ndl h
  unfold Rises
  grind
theorem pop_cv {S : List Pt} {c : Pt} (hS : ∀ q ∈ S, q.1 < c.1) : ∀ {s : List Pt} {t : Pt}, s.head? = some t → Cv S s → (∀ q ∈ S, t.1 ≤ q.1 → Abv q t c) →
    ∃ t' r, popW s c = t' :: r ∧ Cv S (t' :: r) ∧ (∀ q ∈ S, t'.1 ≤ q.1 → Abv q t' c) ∧ (∀ z, r.head? = some z → Rises z t' c) ∧ (t' :: r).getLast? = s.getLast?
  | [], _, h, _, _ => nomatch h
  | [a], t, h, hc, hq => by
    cases h
    exact ⟨a, [], rfl, hc, hq, (fun _ z => nomatch z), rfl⟩
  | b :: a :: r, t, h, hc, hq => by
    cases h
    rw [popW]
    cases hn : ndl a b c with
    | false =>
      rw [if_neg Bool.false_ne_true]
      exact ⟨b, a :: r, rfl, hc, hq, fun z hz => by cases hz; exact rises_of hn, rfl⟩
    | true =>
      rw [if_pos rfl]
      have ab : Abv b a c := by
        unfold ndl at hn
        have := of_decide_eq_true hn
        unfold Abv
        omega
      have bc := hS b hc.1
      obtain ⟨t', r', e, h1, h2, h3, h4⟩ := pop_cv hS (s := a :: r) rfl hc.2.2.2.2 (fun q hm hx => by
        rcases Int.lt_or_le q.1 b.1 with g | g
        · exact abv_left (hc.2.2.1 q hm hx (by omega)) ab hx (by omega) hc.2.1 bc
        · exact abv_right (hq q hm g) ab g (by have := hS q hm; omega) hc.2.1 bc)
      exact ⟨t', r', e, h1, h2, h3, by rw [h4]; simp⟩
/-- points from the left to the right -/
def Srt : List Pt → Prop
  | [] => True
  | [_] => True
  | a :: b :: r => a.1 < b.1 ∧ Srt (b :: r)
theorem hull_inv : ∀ (T S s : List Pt), Cv S s → (S = [] ∧ s = [] ∨ ∃ t, s.head? = some t ∧ S.getLast? = some t ∧ ∀ q ∈ S, q.1 ≤ t.1 ∧ (q.1 = t.1 → q = t)) → s.getLast? = S.head? → Srt (S ++ T) → (∀ q ∈ S, ∀ c ∈ T, q.1 < c.1) →
    Cv (S ++ T) (hullS T s) ∧ (hullS T s).head? = (S ++ T).getLast? ∧ (hullS T s).getLast? = (S ++ T).head?
  | [], S, s, h, ht, hb, _, _ => by
    rw [List.append_nil]
    refine ⟨h, ?_, hb⟩
    rcases ht with ⟨rfl, rfl⟩ | ⟨t, h1, h2, _⟩
    · rfl
    · rw [h2]; exact h1
  | c :: T, S, s, h, ht, hb, hs, hx => by
    have hS : ∀ q ∈ S, q.1 < c.1 := fun q hq => hx q hq c List.mem_cons_self
    have after : ∀ T' : List Pt, Srt (S ++ c :: T') → ∀ d ∈ T', c.1 < d.1 := by
      have aux : ∀ (T' : List Pt) (c : Pt), Srt (c :: T') → ∀ d ∈ T', c.1 < d.1 := by
        intro T'
        induction T' with
        | nil => exact fun c _ d hd => nomatch hd
        | cons e T' ih =>
          intro c hc d hd
          rcases List.mem_cons.mp hd with rfl | hd
          · exact hc.1
          · have := ih e hc.2 d hd
            have := hc.1
            omega
      have tl : ∀ (S : List Pt) (l : List Pt), Srt (S ++ l) → Srt l := by
        intro S
        induction S with
        | nil => exact fun l h => h
        | cons a S ih =>
          intro l h
          refine ih l ?_
          cases hS : S ++ l with
          | nil => trivial
          | cons b r =>
            rw [List.cons_append, hS] at h
            exact h.2
      exact fun T' h => aux T' c (tl S _ h)
    have nx : ∀ q ∈ S ++ [c], ∀ d ∈ T, q.1 < d.1 := fun q hq d hd => by
      rcases List.mem_append.mp hq with hq | hq
      · exact hx q hq d (List.mem_cons_of_mem _ hd)
      · rw [List.mem_singleton.mp hq]; exact after T hs d hd
    have e : S ++ c :: T = (S ++ [c]) ++ T := by simp
    rw [e] at hs ⊢
    rw [show hullS (c :: T) s = hullS T (c :: popW s c) from rfl]
    have top : ∃ t, (c :: popW s c).head? = some t ∧ (S ++ [c]).getLast? = some t ∧ ∀ q ∈ S ++ [c], q.1 ≤ t.1 ∧ (q.1 = t.1 → q = t) := by
      refine ⟨c, rfl, by simp, fun q hq => ?_⟩
      rcases List.mem_append.mp hq with hq | hq
      · have := hS q hq
        exact ⟨by omega, fun z => by omega⟩
      · rw [List.mem_singleton.mp hq]; exact ⟨Int.le_refl _, fun _ => rfl⟩
    rcases ht with ⟨rfl, rfl⟩ | ⟨t, h1, h2, h3⟩
    · refine hull_inv T ([] ++ [c]) [c] ?_ (.inr top) rfl hs nx
      show c ∈ [] ++ [c]
      simp
    · obtain ⟨t', r, e', g1, g2, g3, g4⟩ := pop_cv hS h1 h (fun q hq hxq => by
        obtain ⟨z1, z2⟩ := h3 q hq
        rw [z2 (by omega)]
        exact abv_self_l t c)
      refine hull_inv T (S ++ [c]) (c :: popW s c) ?_ (.inr top) ?_ hs nx
      · rw [e']
        refine ⟨by simp, hS t' (g1.mem t' List.mem_cons_self), fun q hq hq1 hq2 => ?_, g3, g1.more hS⟩
        rcases List.mem_append.mp hq with hq | hq
        · exact g2 q hq hq1
        · rw [List.mem_singleton.mp hq]; exact abv_self_r t' c
      · rw [e']
        rw [show (c :: t' :: r).getLast? = (t' :: r).getLast? by simp, g4, hb]
        cases S with
        | nil => cases h2
        | cons a S => rfl
theorem hull_ok {S : List Pt} (h : Srt S) : Cv S (hull S).reverse ∧ (hull S).head? = S.head? ∧ (hull S).getLast? = S.getLast? := by
  have := hull_inv S [] [] trivial (.inl ⟨rfl, rfl⟩) rfl (by simpa using h) (fun _ z => nomatch z)
  rw [List.nil_append] at this
  unfold hull
  rw [List.reverse_reverse]
  refine ⟨this.1, ?_, ?_⟩
  · rw [List.head?_reverse]; exact this.2.2
  · rw [List.getLast?_reverse]; exact this.2.1
end PM
set_option Elab.async false
set_option linter.all false
set_option maxRecDepth 100000
set_option autoImplicit false
set_option exponentiation.threshold 20000
namespace PM
open PySem PySem.Spec L2 PL
open PyProof.Rows hiding St
theorem sqN {c k : Rho → Out} {ρ ρ' : Rho} {o : Out} (h : c ρ = .next ρ') (g : k ρ' = o) : bSeq c k ρ = o := by rw [bSeq_eq, h, then_next]; exact g
theorem sqS {i : Nat} {f : Rho → R PV} {k : Rho → Out} {ρ : Rho} (p : PV) {o : Out} (h : f ρ = .ok p) (g : k (ρ.set i (.val p)) = o) : bSeq (sSet i f) k ρ = o := sqN (by rw [sSet_eq, h, st_ok]) g
theorem sqK {t : Rho → R Bool} {u k : Rho → Out} {ρ : Rho} {o : Out} (h : t ρ = .ok false) (g : k ρ = o) : bSeq (sIf t u bNil) k ρ = o := sqN (by rw [sIf_eq, h, stB_ok, if_neg Bool.false_ne_true, bNil_eq]) g
def pcV (a b : Pt) : PV := .tup [fracV (ftop (a.2 - b.2) (b.1 - a.1)) (fbot (a.2 - b.2) (b.1 - a.1)), .int (b.1 - a.1)]
def pcsV : List Pt → List PV
  | b :: a :: r => pcV a b :: pcsV (a :: r)
  | _ => []
def Dwn : List Pt → Prop
  | b :: a :: r => a.1 < b.1 ∧ Dwn (a :: r)
  | _ => True
theorem Cv.dwn {S : List Pt} : ∀ {s : List Pt}, Cv S s → Dwn s
  | [], _ => trivial
  | [_], _ => trivial
  | _ :: _ :: _, h => ⟨h.2.1, Cv.dwn h.2.2.2.2⟩
theorem rngDn_zero (lo : Int) : rngDn lo 0 = [] := rfl
theorem rngDn_succ (lo : Int) (n : Nat) : rngDn lo (n + 1) = .int lo :: rngDn (lo - 1) n := by
  unfold rngDn
  rw [List.range_succ_eq_map, List.map_cons, List.map_map]
  congr 1
  · congr 1; omega
  · refine List.map_congr_left fun i _ => ?_
    show PV.int (lo - ((i + 1 : Nat) : Int)) = _
    congr 1; omega
theorem ptV_ix {l : List Pt} {q : Pt} {k : Nat} (h : l[k]? = some q) : ixP (.lst (l.map ptV)) (.int k) = .ok (ptV q) :=
  ixP_lst (by omega) (by rw [Int.toNat_natCast, List.getElem?_map, h]; rfl)
theorem rev_at1 (pre r : List Pt) (a b : Pt) : (pre ++ b :: a :: r).reverse[r.length + 1]? = some b := by
  rw [List.reverse_append, List.reverse_cons, List.reverse_cons, List.append_assoc, List.append_assoc, List.getElem?_append_right (by simp)]
  simp
theorem rev_at0 (pre r : List Pt) (a b : Pt) : (pre ++ b :: a :: r).reverse[r.length]? = some a := by
  rw [List.reverse_append, List.reverse_cons, List.reverse_cons, List.append_assoc, List.append_assoc, List.getElem?_append_right (by simp)]
  simp
theorem piece_loop (x y : PV) (S : List Pt) (hS : ∀ q ∈ S, Sm q) (hl : S.length ≤ 1000) : ∀ (r pre : List Pt) (b : Pt) (out : List PV) (s4 s5 s6 s7 s8 : Slot), S = pre ++ b :: r → Dwn (b :: r) → out.length + r.length ≤ 1000 → ∃ s4' s5' s6' s7' s8',
    forL (gN 4) (bSeq (sTo (gT (gsCons (gN 5) (gsCons (gN 6) gsNil))) (e2 ixP (eVo 2) (e2 subP (eVo 4) (eC (.int 1))))) (bSeq (sTo (gT (gsCons (gN 7) (gsCons (gN 8) gsNil))) (e2 ixP (eVo 2) (eVo 4))) (bSeq (sMut 3 appP (eD tupP (aCons (eD F_fraction (aCons (e2 subP (eVo 6) (eVo 8)) (aCons (e2 subP (eVo 7) (eVo 5)) aNil))) (aCons (e2 subP (eVo 7) (eVo 5)) aNil)))) bNil))) (rngDn r.length r.length) [.val x, .val y, .val (.lst (S.reverse.map ptV)), .own out, s4, s5, s6, s7, s8] = .next [.val x, .val y, .val (.lst (S.reverse.map ptV)), .own (out ++ pcsV (b :: r)), s4', s5', s6', s7', s8']
  | [], pre, b, out, s4, s5, s6, s7, s8, e, _, _ => ⟨s4, s5, s6, s7, s8, by rw [List.length_nil, rngDn_zero, forL_nil]; simp [pcsV]⟩
  | a :: r, pre, b, out, s4, s5, s6, s7, s8, e, hd, hlo => by
    rw [List.length_cons] at hlo
    have i1 : ixP (.lst (S.reverse.map ptV)) (.int ((r.length : Int) + 1)) = .ok (ptV b) := ptV_ix (k := r.length + 1) (by rw [e]; exact rev_at1 pre r a b)
    have i0 : ixP (.lst (S.reverse.map ptV)) (.int (r.length : Int)) = .ok (ptV a) := ptV_ix (k := r.length) (by rw [e]; exact rev_at0 pre r a b)
    have sb := hS b (by rw [e]; simp)
    have sa := hS a (by rw [e]; simp)
    have fr := f_fraction (a.2 - b.2) (b.1 - a.1) (by have := hd.1; omega) (by have := sb.1; have := sa.1; omega)
    obtain ⟨s4', s5', s6', s7', s8', ih⟩ := piece_loop x y S hS hl r (pre ++ [b]) a (out ++ [pcV a b]) (.val (.int ((r.length : Int) + 1))) (.val (.int a.1)) (.val (.int a.2)) (.val (.int b.1)) (.val (.int b.2)) (by rw [e]; simp) hd.2 (by rw [List.length_append, List.length_singleton]; omega)
    have t2 : tupP [fracV (ftop (a.2 - b.2) (b.1 - a.1)) (fbot (a.2 - b.2) (b.1 - a.1)), .int (b.1 - a.1)] = .ok (pcV a b) := tupP_ok (by simp)
    have ap : appP out (pcV a b) = .ok (out ++ [pcV a b]) := appP_ok (by omega)
    have g1 : ∀ s4 s5 s6 s7 s8, gT (gsCons (gN 5) (gsCons (gN 6) gsNil)) (ptV a) [.val x, .val y, .val (.lst (S.reverse.map ptV)), .own out, s4, s5, s6, s7, s8] = some [.val x, .val y, .val (.lst (S.reverse.map ptV)), .own out, s4, .val (.int a.1), .val (.int a.2), s7, s8] := fun _ _ _ _ _ => rfl
    have g2 : ∀ s4 s5 s6 s7 s8, gT (gsCons (gN 7) (gsCons (gN 8) gsNil)) (ptV b) [.val x, .val y, .val (.lst (S.reverse.map ptV)), .own out, s4, s5, s6, s7, s8] = some [.val x, .val y, .val (.lst (S.reverse.map ptV)), .own out, s4, s5, s6, .val (.int b.1), .val (.int b.2)] := fun _ _ _ _ _ => rfl
    refine ⟨s4', s5', s6', s7', s8', ?_⟩
    rw [show out ++ pcsV (b :: a :: r) = (out ++ [pcV a b]) ++ pcsV (a :: r) by simp [pcsV], ← ih, show (((a :: r).length : Nat) : Int) = (r.length : Int) + 1 by simp, List.length_cons, rngDn_succ, show (r.length : Int) + 1 - 1 = r.length by omega, forL_cons, gN_eq, onR_some]
    simp only [List.set_cons_succ, List.set_cons_zero, bSeq_eq, sTo_eq, e2_eq, eC_eq, eVo0, eVos, bind1, subP_ii, show (r.length : Int) + 1 - 1 = r.length by omega, i0, i1, st_ok, g1, g2, onR_some, then_next, sMut_eq, getOwn0, getOwnS, onOwn_some, eD_eq, aCons_eq, aNil_eq, fr, t2, ap, own_ok, bNil_eq, fo_next]
theorem f_sizes_of {x y : PV} {b : Pt} {s : List Pt} (h : F_corners_of [x, y] = .ok (.lst ((b :: s).reverse.map ptV))) (hS : ∀ q ∈ b :: s, Sm q) (hd : Dwn (b :: s)) (hl : s.length < 1000) :
    F_sizes_of [x, y] = .ok (.tup [.int (((b :: s).getLast (by simp)).1), .lst (pcsV (b :: s))]) := by
  obtain ⟨s4, s5, s6, s7, s8, lp⟩ := piece_loop x y (b :: s) hS (by rw [List.length_cons]; omega) s [] b [] .un .un .un .un .un rfl hd (by simp; omega)
  refine (runF_eq (n := 9) (u := D_sizes_of)).trans ?_
  show (D_sizes_of [.val x, .val y, .un, .un, .un, .un, .un, .un, .un]).res = _
  have t0 : lstP [] = .ok (.lst []) := lstP_ok (by simp)
  have ln : lenP [.lst ((b :: s).reverse.map ptV)] = .ok (.int ((s.length : Int) + 1)) := by simp
  have r3 : rng3 [.int (s.length : Int), .int 0, .int (-1)] = .ok (rngDn s.length s.length) := by rw [rng3_sm (by omega) (by omega) (by omega) (by omega)]; rfl
  have i0 : ixP (.lst ((b :: s).reverse.map ptV)) (.int 0) = .ok (ptV ((b :: s).getLast (by simp))) := by
    refine ptV_ix (k := 0) ?_
    rw [← List.head?_eq_getElem?, List.head?_reverse, List.getLast?_eq_some_getLast]
  have j0 : ixP (ptV ((b :: s).getLast (by simp))) (.int 0) = .ok (.int ((b :: s).getLast (by simp)).1) := ptV0 _
  obtain ⟨X, hX⟩ : ∃ X, X = (b :: s).reverse.map ptV := ⟨_, rfl⟩
  rw [← hX] at lp ln i0 h
  obtain ⟨q, hq⟩ : ∃ q, q = (b :: s).getLast (by simp) := ⟨_, rfl⟩
  rw [← hq] at i0 j0 ⊢
  unfold D_sizes_of
  refine stpN (ρ' := [.val x, .val y, .val (.lst X), .un, .un, .un, .un, .un, .un]) (by simp [h]) ?_
  refine stpN (ρ' := [.val x, .val y, .val (.lst X), .own [], .un, .un, .un, .un, .un]) (by simp [t0]) ?_
  refine stpFor (rngDn s.length s.length) _ (by
    simp only [iR_eq, e2_eq, e1_eq, eD_eq, aCons_eq, aNil_eq, eC_eq, eVo0, eVos, bind1, ln, subP_ii, show (s.length : Int) + 1 - 1 = s.length by omega, negP_eq, r3]) lp ?_
  rw [List.nil_append]
  obtain ⟨Y, hY⟩ : ∃ Y, Y = pcsV (b :: s) := ⟨_, rfl⟩
  rw [← hY]
  have t2 : tupP [.int q.1, .lst Y] = .ok (.tup [.int q.1, .lst Y]) := tupP_ok (by simp)
  simp [i0, j0, t2]
theorem pts_ge (p : Int) : ∀ (as : List Int) (n : Nat), ∀ q ∈ pts p n as, (n : Int) ≤ q.1
  | [], _, _, h => nomatch h
  | a :: r, n, q, h => by
    by_cases z : a = 0
    · subst z
      rw [pts_cons0] at h
      have := pts_ge p r (n + 1) q h
      omega
    · rw [pts_cons p n r z] at h
      rcases List.mem_cons.mp h with rfl | h
      · exact Int.le_refl _
      · have := pts_ge p r (n + 1) q h
        omega
theorem pts_srt (p : Int) : ∀ (as : List Int) (n : Nat), Srt (pts p n as)
  | [], _ => trivial
  | a :: r, n => by
    by_cases z : a = 0
    · subst z
      rw [pts_cons0]
      exact pts_srt p r (n + 1)
    · rw [pts_cons p n r z]
      have ih := pts_srt p r (n + 1)
      have g := pts_ge p r (n + 1)
      cases h : pts p (n + 1) r with
      | nil => trivial
      | cons b l =>
        rw [h] at ih g
        exact ⟨by have := g b List.mem_cons_self; show (n : Int) < b.1; omega, ih⟩
theorem vp_le {p a : Int} (hp : 2 ≤ p) (h : a ≠ 0) {m : Nat} (hm : a.natAbs < 2 ^ m) : 0 ≤ vp p a ∧ vp p a < m := by
  obtain ⟨c, v, e, hc, hv⟩ := vp_spec hp h
  have hc0 : c ≠ 0 := fun z => by rw [z] at hc; simp at hc
  rw [hv]
  refine ⟨by omega, ?_⟩
  have h1 : (2 : Int).natAbs ^ v ≤ a.natAbs := by
    rw [e, Int.natAbs_mul, Int.natAbs_pow]
    calc (2 : Int).natAbs ^ v ≤ p.natAbs ^ v := Nat.pow_le_pow_left (by omega) v
      _ = 1 * p.natAbs ^ v := by rw [Nat.one_mul]
      _ ≤ c.natAbs * p.natAbs ^ v := Nat.mul_le_mul_right _ (by omega)
  have h2 : 2 ^ v < 2 ^ m := by
    have : (2 : Int).natAbs = 2 := rfl
    rw [this] at h1
    omega
  have := (Nat.pow_lt_pow_iff_right (by omega : 1 < 2)).mp h2
  omega
theorem pts_sm {p : Int} (hp : 2 ≤ p) : ∀ (as : List Int) (n : Nat), (∀ a ∈ as, a.natAbs < 2 ^ 1000) → n + as.length ≤ 1000 → ∀ q ∈ pts p n as, Sm q
  | [], _, _, _, _, h => nomatch h
  | a :: r, n, hb, hl, q, h => by
    rw [List.length_cons] at hl
    have ih := pts_sm hp r (n + 1) (fun a ha => hb a (List.mem_cons_of_mem _ ha)) (by omega)
    by_cases z : a = 0
    · subst z
      rw [pts_cons0] at h
      exact ih q h
    · rw [pts_cons p n r z] at h
      rcases List.mem_cons.mp h with rfl | h
      · have := vp_le hp z (hb a List.mem_cons_self)
        exact ⟨by show ((n : Nat) : Int).natAbs < _; omega, by show (vp p a).natAbs < _; omega⟩
      · exact ih q h
theorem pts_len (p : Int) : ∀ (as : List Int) (n : Nat), (pts p n as).length ≤ as.length
  | [], _ => Nat.le_refl _
  | a :: r, n => by
    have ih := pts_len p r (n + 1)
    by_cases z : a = 0
    · subst z
      rw [pts_cons0]
      simp only [List.length_cons]; omega
    · rw [pts_cons p n r z]
      simp only [List.length_cons]; omega
theorem pts_last (p : Int) : ∀ (as : List Int) (n : Nat) (x : Int), x ≠ 0 → pts p n (as ++ [x]) = pts p n as ++ [(((n + as.length : Nat) : Int), vp p x)]
  | [], n, x, h => by
    rw [List.nil_append, pts_cons p n [] h]
    simp [pts]
  | a :: r, n, x, h => by
    have ih := pts_last p r (n + 1) x h
    have e : n + (a :: r).length = n + 1 + r.length := by rw [List.length_cons]; omega
    rw [e, List.cons_append]
    by_cases z : a = 0
    · subst z
      rw [pts_cons0, pts_cons0, ih]
    · rw [pts_cons p n _ z, pts_cons p n _ z, ih, List.cons_append]
/-- what is told of a polynomial -/
theorem f_told {p : Int} (hp : p ∈ primesL) {as : List Int} (h : PolyI as) (hb : ∀ a ∈ as, a.natAbs < 2 ^ 1000) :
    ∃ (b : Pt) (s : List Pt), (hull (pts p 0 as)).reverse = b :: s ∧ Cv (pts p 0 as) (b :: s) ∧ (∀ q ∈ b :: s, Sm q) ∧ s.length < 9 ∧
      (pts p 0 as).getLast? = some b ∧ (pts p 0 as).head? = (b :: s).getLast? ∧ Srt (pts p 0 as) ∧
      F_points_of [.int p, .lst (as.map PV.int)] = .ok (.lst ((pts p 0 as).map ptV)) ∧
      F_corners_of [.int p, .lst (as.map PV.int)] = .ok (.lst ((b :: s).reverse.map ptV)) ∧
      F_sizes_of [.int p, .lst (as.map PV.int)] = .ok (.tup [.int (((b :: s).getLast (by simp)).1), .lst (pcsV (b :: s))]) := by
  have hpb := primesL_le p hp
  have P := f_points hp h
  have sm := pts_sm hpb.1 as 0 hb (by have := h.2.1; omega)
  have sr := pts_srt p as 0
  have pl := pts_len p as 0
  have h9 := h.2.1
  have C := f_corners_of P sm (by omega)
  obtain ⟨k1, k2, k3⟩ := hull_ok sr
  have ne : (pts p 0 as) ≠ [] := fun z => by
    have h2 := h.1
    obtain ⟨l, x, rfl⟩ : ∃ l x, as = l ++ [x] := ⟨as.dropLast, as.getLast (by intro z; rw [z] at h2; simp at h2), (List.dropLast_concat_getLast _).symm⟩
    have hx : x ≠ 0 := fun z => h.2.2 (by rw [z]; simp)
    rw [pts_last p l 0 x hx] at z
    simp at z
  have hn : hull (pts p 0 as) ≠ [] := fun z => by
    rw [z] at k2
    cases hq : pts p 0 as with
    | nil => exact ne hq
    | cons a l => rw [hq] at k2; exact nomatch k2
  cases hr : (hull (pts p 0 as)).reverse with
  | nil => exact absurd (List.reverse_eq_nil_iff.mp hr) hn
  | cons b s =>
    rw [hr] at k1
    have e : hull (pts p 0 as) = (b :: s).reverse := by rw [← hr, List.reverse_reverse]
    have smh : ∀ q ∈ b :: s, Sm q := fun q hq => sm q (k1.mem q hq)
    have len : (b :: s).length ≤ (pts p 0 as).length := by
      have aux : ∀ (T s : List Pt), (hullS T s).length ≤ s.length + T.length := by
        intro T
        induction T with
        | nil => intro s; exact Nat.le_refl _
        | cons c T ih =>
          intro s
          have := ih (c :: popW s c)
          have := popW_len c s
          rw [show hullS (c :: T) s = hullS T (c :: popW s c) from rfl]
          simp only [List.length_cons] at *
          omega
      have := aux (pts p 0 as) []
      have e2 : (hull (pts p 0 as)).length = (hullS (pts p 0 as) []).length := by unfold hull; rw [List.length_reverse]
      rw [← hr, List.length_reverse, e2]
      simpa using this
    rw [List.length_cons] at len
    rw [e] at C k2 k3
    refine ⟨b, s, rfl, k1, smh, by omega, ?_, ?_, sr, P, C, f_sizes_of C smh k1.dwn (by omega)⟩
    · rw [← k3, List.getLast?_reverse]; rfl
    · rw [← k2, List.head?_reverse]
theorem nine_cells (ns : List Int) (a j : Int) (hb : ∀ z ∈ ns, z.natAbs.log2 < 1048577) (hn : ns.length ≤ 63) : ∃ cs : List Int, ((addP (.lst (cutG (ns.map PV.int) (some a) (some j))) (.lst [.int 3, .int 10])).bind fun x => slP x none (some 9)) = .ok (.lst (cs.map PV.int)) ∧ 2 ≤ cs.length ∧ cs.length ≤ 9 ∧ ∀ c ∈ cs, c.natAbs.log2 < 1048577 := by
  obtain ⟨ms, hms⟩ : ∃ ms, ms = cutG ns (some a) (some j) := ⟨_, rfl⟩
  have ml : ms.length ≤ 63 := by rw [hms]; exact Nat.le_trans (cut_len _ _ _) hn
  have ap : addP (.lst (ms.map PV.int)) (.lst [.int 3, .int 10]) = .ok (.lst ((ms ++ [3, 10]).map PV.int)) := by rw [addP_ok (by simp; omega), List.map_append]; rfl
  refine ⟨(ms ++ [3, 10]).take 9, ?_, by simp; omega, by simp; omega, fun c hc => ?_⟩
  · rw [cut_map, ← hms, ap, bind1, slP_l, cut_map, cut_take _ 9 (by omega)]
    rfl
  · have h := List.mem_of_mem_take hc
    rcases List.mem_append.mp h with h | h
    · rw [hms] at h
      exact hb c (cut_mem _ _ _ c h)
    · simp only [List.mem_cons, List.not_mem_nil, or_false] at h
      rcases h with rfl | rfl <;> decide
theorem Cv.at {S : List Pt} : ∀ {s : List Pt}, Cv S s → ∀ k, k + 1 < s.length → ∃ a c, s.reverse[k]? = some a ∧ s.reverse[k + 1]? = some c ∧ a.1 < c.1 ∧ c ∈ S ∧ a ∈ S ∧ (∀ q ∈ S, a.1 ≤ q.1 → q.1 ≤ c.1 → Abv q a c) ∧ (∀ z, 1 ≤ k → s.reverse[k - 1]? = some z → Rises z a c)
  | [], _, k, hk => by simp at hk
  | [_], _, k, hk => by simp at hk
  | b :: a :: r, h, k, hk => by
    rw [List.length_cons, List.length_cons] at hk
    by_cases e : k + 1 < (a :: r).length
    · obtain ⟨x, y, h1, h2, h3⟩ := Cv.at h.2.2.2.2 k e
      have l : (a :: r).reverse.length = r.length + 1 := by rw [List.length_reverse, List.length_cons]
      rw [List.length_cons] at e
      refine ⟨x, y, by rw [List.reverse_cons, List.getElem?_append_left (by omega)]; exact h1, by rw [List.reverse_cons, List.getElem?_append_left (by omega)]; exact h2, h3.1, h3.2.1, h3.2.2.1, h3.2.2.2.1, fun z k1 hz => h3.2.2.2.2 z k1 ?_⟩
      rw [List.reverse_cons, List.getElem?_append_left (by omega)] at hz
      exact hz
    · rw [List.length_cons] at e
      have e' : k = r.length := by omega
      subst e'
      refine ⟨a, b, rev_at0 [] r a b, rev_at1 [] r a b, h.2.1, h.1, Cv.mem h.2.2.2.2 a List.mem_cons_self, h.2.2.1, fun z k1 hz => h.2.2.2.1 z ?_⟩
      cases r with
      | nil => simp at k1
      | cons w r =>
        have := rev_at0 [b] r w a
        rw [show (b :: a :: w :: r).reverse = ([b] ++ a :: w :: r).reverse from rfl] at hz
        rw [List.length_cons, show r.length + 1 - 1 = r.length by omega, this] at hz
        exact hz
end PM
set_option Elab.async false
set_option linter.all false
set_option maxRecDepth 100000
set_option autoImplicit false
set_option exponentiation.threshold 20000
namespace PM
open PySem PySem.Spec L2 PL
open PyProof.Rows hiding St
noncomputable def vn (p : Int) (n : Nat) : Nat := (vp p n).toNat
theorem vn_spec {p : Int} (hp : 2 ≤ p) {n : Nat} (hn : 1 ≤ n) : ∃ m : Int, (n : Int) = m * p ^ vn p n ∧ m % p ≠ 0 ∧ 1 ≤ m ∧ vp p n = vn p n := by
  obtain ⟨m, v, h1, h2, h3⟩ := vp_spec hp (show (n : Int) ≠ 0 by omega)
  have e : vn p n = v := by unfold vn; rw [h3]; rfl
  have P : 0 < p ^ v := Int.pow_pos (by omega)
  refine ⟨m, by rw [e]; exact h1, h2, ?_, by rw [e]; exact h3⟩
  rcases Int.lt_or_le m 1 with g | g
  · have := Int.mul_le_mul_of_nonneg_right (show m ≤ 0 by omega) (show 0 ≤ p ^ v by omega)
    rw [Int.zero_mul] at this
    omega
  · exact g
theorem vn_uniq {p m : Int} {n v : Nat} (hp : 2 ≤ p) (hn : 1 ≤ n) (h : (n : Int) = m * p ^ v) (hm : m % p ≠ 0) : vn p n = v := by
  obtain ⟨m', h1, h2, _, _⟩ := vn_spec hp hn
  exact (vp_uniq hp (h.symm.trans h1) hm h2).symm
theorem vn_zero {p : Int} {n : Nat} (hp : 2 ≤ p) (hn : 1 ≤ n) (h : (n : Int) % p ≠ 0) : vn p n = 0 := vn_uniq (m := n) hp hn (by simp) h
/-- the figures' sum by a prime: what the factorials lack -/
def dsum (p : Nat) : Nat → Nat → Nat
  | 0, _ => 0
  | f + 1, n => n % p + dsum p f (n / p)
noncomputable def wf (p : Int) : Nat → Nat
  | 0 => 0
  | n + 1 => wf p n + vn p (n + 1)
theorem dsum_0 (p : Nat) : ∀ f : Nat, dsum p f 0 = 0
  | 0 => rfl
  | f + 1 => by rw [dsum, Nat.zero_mod, Nat.zero_div, Nat.zero_add, dsum_0 p f]
theorem dsum_fuel {p : Nat} (hp : 2 ≤ p) : ∀ (f g n : Nat), n ≤ f → n ≤ g → dsum p f n = dsum p g n
  | 0, g, n, h, _ => by
    have e : n = 0 := by omega
    subst e
    rw [dsum_0, dsum_0]
  | f + 1, 0, n, _, h => by
    have e : n = 0 := by omega
    subst e
    rw [dsum_0, dsum_0]
  | f + 1, g + 1, n, h1, h2 => by
    rw [dsum, dsum]
    have : n / p ≤ n / 2 := Nat.div_le_div_left hp (by omega)
    rw [dsum_fuel hp f g (n / p) (by omega) (by omega)]
theorem vn_dsum {p : Nat} (hp : 2 ≤ p) : ∀ (f n : Nat), n + 1 ≤ f → (p - 1) * vn p (n + 1) + dsum p f (n + 1) = 1 + dsum p f n
  | 0, _, h => by omega
  | f + 1, n, h => by
    by_cases c : (n + 1) % p = 0
    · obtain ⟨j, hj⟩ : ∃ j, n + 1 = p * j := ⟨(n + 1) / p, by have := Nat.div_add_mod (n + 1) p; omega⟩
      have j0 : j ≠ 0 := fun z => by rw [z] at hj; omega
      obtain ⟨i, rfl⟩ : ∃ i, j = i + 1 := ⟨j - 1, by omega⟩
      have hn : n = p * i + (p - 1) := by rw [Nat.mul_add] at hj; omega
      have d1 : (n + 1) / p = i + 1 := by rw [hj]; exact Nat.mul_div_cancel_left _ (by omega)
      have d2 : n / p = i := by rw [hn, Nat.mul_add_div (by omega), Nat.div_eq_of_lt (by omega)]; omega
      have m2 : n % p = p - 1 := by rw [hn, Nat.mul_add_mod, Nat.mod_eq_of_lt (by omega)]
      have il : i + 1 ≤ f := by
        have : 2 * (i + 1) ≤ p * (i + 1) := Nat.mul_le_mul_right _ hp
        omega
      have ih := vn_dsum hp f i il
      obtain ⟨m, h1, h2, _, _⟩ := vn_spec (p := (p : Int)) (by omega) (show 1 ≤ i + 1 by omega)
      have e : vn p (n + 1) = vn p (i + 1) + 1 := vn_uniq (m := m) (by omega) (by omega) (by rw [hj, Int.natCast_mul, h1, Int.pow_succ]; grind) h2
      rw [dsum, dsum, c, d1, d2, m2, e, Nat.mul_add]
      omega
    · have hv : vn p (n + 1) = 0 := vn_zero (by omega) (by omega) (by omega)
      have hp0 : 0 < p := by omega
      have dm := Nat.div_add_mod n p
      have lt := Nat.mod_lt n hp0
      have e1 : n % p + 1 < p := by
        rcases Nat.lt_or_ge (n % p + 1) p with g | g
        · exact g
        · exfalso
          have : n + 1 = p * (n / p + 1) := by rw [Nat.mul_add]; omega
          rw [this] at c
          exact c (Nat.mul_mod_right _ _)
      have e2 : n + 1 = p * (n / p) + (n % p + 1) := by omega
      have d1 : (n + 1) / p = n / p := by
        conv => lhs; rw [e2]
        rw [Nat.mul_add_div hp0, Nat.div_eq_of_lt e1]; omega
      have d2 : (n + 1) % p = n % p + 1 := by
        conv => lhs; rw [e2]
        rw [Nat.mul_add_mod, Nat.mod_eq_of_lt e1]
      rw [dsum, dsum, hv, d1, d2]
      omega
theorem wf_dsum {p : Nat} (hp : 2 ≤ p) (f : Nat) : ∀ n : Nat, n ≤ f → (p - 1) * wf p n + dsum p f n = n
  | 0, _ => by
    have := dsum_fuel hp f 0 0 (by omega) (by omega)
    rw [wf, Nat.mul_zero, this]; rfl
  | n + 1, h => by
    have ih := wf_dsum hp f n (by omega)
    have s := vn_dsum hp f n h
    rw [wf, Nat.mul_add]
    omega
theorem dsum_pos {p : Nat} (hp : 2 ≤ p) : ∀ (f n : Nat), n ≤ f → 1 ≤ n → 1 ≤ dsum p f n
  | 0, n, h, h2 => by omega
  | f + 1, n, h, h2 => by
    rw [dsum]
    by_cases c : n % p = 0
    · have : n / p ≤ n / 2 := Nat.div_le_div_left hp (by omega)
      have d := Nat.div_add_mod n p
      have : 1 ≤ n / p := by
        rcases Nat.eq_zero_or_pos (n / p) with g | g
        · rw [g] at d; omega
        · exact g
      have := dsum_pos hp f (n / p) (by omega) this
      omega
    · omega
theorem wf_lt {p : Int} (hp : 2 ≤ p) (n : Nat) (hn : 1 ≤ n) : (p - 1) * (wf p n : Int) ≤ n - 1 := by
  obtain ⟨q, rfl⟩ : ∃ q : Nat, p = q := ⟨p.toNat, by omega⟩
  have h1 := wf_dsum (p := q) (by omega) n n (Nat.le_refl _)
  have h2 := dsum_pos (p := q) (by omega) n n (Nat.le_refl _) hn
  have e : ((q - 1 : Nat) : Int) = (q : Int) - 1 := by omega
  have h3 : ((q - 1 : Nat) : Int) * (wf q n : Int) = (((q - 1) * wf q n : Nat) : Int) := by rw [Int.natCast_mul]
  rw [← e, h3]
  omega
theorem wf_le {p : Int} (hp : 2 ≤ p) (n : Nat) (hn : 1 ≤ n) : wf p n + 1 ≤ n := by
  have h := wf_lt hp n hn
  have : 1 * (wf p n : Int) ≤ (p - 1) * (wf p n : Int) := Int.mul_le_mul_of_nonneg_right (by omega) (by omega)
  omega
end PM
set_option Elab.async false
set_option linter.all false
set_option maxRecDepth 100000
set_option autoImplicit false
set_option exponentiation.threshold 20000
namespace PM
open PySem PySem.Spec L2 PL
open PyProof.Rows hiding St
theorem mo_iff {m x y : Int} : Mo m x y ↔ m ∣ x - y := by
  constructor
  · rintro ⟨z, h⟩; exact ⟨z, by omega⟩
  · rintro ⟨z, h⟩; exact ⟨z, by omega⟩
theorem Mo.canc {p m a b : Int} (hp : p ∈ primesL) (hm : m % p ≠ 0) {E v : Nat} (h : Mo (p ^ (E + v)) (m * p ^ v * a) (m * p ^ v * b)) : Mo (p ^ E) a b := by
  have hpb := primesL_le p hp
  have P : p ^ v ≠ 0 := Int.pow_ne_zero (by omega)
  rw [mo_iff] at h ⊢
  obtain ⟨z, hz⟩ := h
  have e : m * (a - b) = p ^ E * z := by
    rw [Int.pow_add] at hz
    refine Int.eq_of_mul_eq_mul_left P ?_
    grind
  have g : Int.gcd (p ^ E) m = 1 := by rw [Int.gcd_comm]; exact prime_gcd hp hm E
  have d : (p ^ E).natAbs ∣ m.natAbs * (a - b).natAbs := by rw [← Int.natAbs_mul]; exact Int.natAbs_dvd_natAbs.mpr ⟨z, e⟩
  exact Int.natAbs_dvd_natAbs.mp (Nat.Coprime.dvd_of_dvd_mul_left g d)
theorem pow_mo0 {p x : Int} {s : Nat} (h : Mo (p ^ s) x 0) (k : Nat) : Mo (p ^ (s * k)) (x ^ k) 0 := by
  obtain ⟨z, hz⟩ := h
  refine ⟨z ^ k, ?_⟩
  rw [hz, Int.zero_add, Int.mul_pow, Int.pow_mul, Int.zero_add]
def fac : Nat → Int
  | 0 => 1
  | n + 1 => fac n * ((n + 1 : Nat) : Int)
noncomputable def mfc (p : Int) : Nat → Int
  | 0 => 1
  | n + 1 => mfc p n * (((n + 1 : Nat) : Int) / p ^ vn p (n + 1))
theorem vn_div {p : Int} (hp : 2 ≤ p) {n : Nat} (hn : 1 ≤ n) : (n : Int) = (n : Int) / p ^ vn p n * p ^ vn p n ∧ ((n : Int) / p ^ vn p n) % p ≠ 0 ∧ 1 ≤ (n : Int) / p ^ vn p n ∧ (n : Int) / p ^ vn p n ≤ n := by
  obtain ⟨m, h1, h2, h3, _⟩ := vn_spec hp hn
  have P : 0 < p ^ vn p n := Int.pow_pos (by omega)
  have e : (n : Int) / p ^ vn p n = m := by
    conv => lhs; rw [h1]
    exact Int.mul_ediv_cancel _ (by omega)
  rw [e]
  refine ⟨h1, h2, h3, ?_⟩
  have := Int.mul_le_mul_of_nonneg_left (show 1 ≤ p ^ vn p n by omega) (show 0 ≤ m by omega)
  omega
theorem mfc_spec {p : Int} (hp : p ∈ primesL) : ∀ n : Nat, fac n = mfc p n * p ^ wf p n ∧ mfc p n % p ≠ 0
  | 0 => by
    have hpb := primesL_le p hp
    refine ⟨by simp [fac, mfc, wf], ?_⟩
    rw [mfc, Int.emod_eq_of_lt (by omega) (by omega)]; decide
  | n + 1 => by
    have hpb := primesL_le p hp
    obtain ⟨h1, h2⟩ := mfc_spec hp n
    obtain ⟨g1, g2, _⟩ := vn_div hpb.1 (show 1 ≤ n + 1 by omega)
    refine ⟨?_, prime_mulI hp h2 g2⟩
    rw [fac, h1, mfc, wf, Int.pow_add]
    conv => lhs; rw [g1]
    grind
def sms (q : Nat → Int) : Nat → Int
  | 0 => q 0
  | n + 1 => sms q n + q (n + 1)
def LgQ (p : Int) (E : Nat) (x : Int) (q : Nat → Int) (N : Nat) : Prop := ∀ k : Nat, 1 ≤ k → k ≤ N → Mo (p ^ (E + vn p k)) (k * q k) (x ^ k)
def ExQ (p : Int) (E : Nat) (x : Int) (q : Nat → Int) (N : Nat) : Prop := ∀ k : Nat, k ≤ N → Mo (p ^ (E + wf p k)) (fac k * q k) (x ^ k)
noncomputable def trn (a w : Int) : Int := match F_turned [.int a, .int w] with | .ok (.int z) => z | _ => 0
noncomputable def ep (p : Int) (n : Nat) (u : Int) : Nat → Int
  | 0 => 1
  | k + 1 => ep p n u k * u * trn (((k + 1 : Nat) : Int) / p ^ vn p (k + 1)) (p ^ n) % p ^ n
noncomputable def er (p : Int) (s k : Nat) : Nat := k * s - wf p k
noncomputable def ee (p : Int) (n : Nat) (u : Int) (s : Nat) (k : Nat) : Int := if k = 0 then 1 else if er p s k < n then ep p n u k * p ^ er p s k else 0
end PM
set_option Elab.async false
set_option linter.all false
set_option maxRecDepth 100000
set_option autoImplicit false
set_option exponentiation.threshold 20000
namespace PM
theorem Mo.zero {m x : Int} (z : Int) (h : x = m * z) : Mo m x 0 := ⟨z, by rw [h, Int.zero_add]⟩
theorem Mo.scaleP {p X Y c : Int} {a b : Nat} (h : Mo (p ^ a) X Y) (hc : Mo (p ^ b) c 0) : Mo (p ^ (a + b)) (X * c) (Y * c) := by
  obtain ⟨z, hz⟩ := h
  obtain ⟨w, hw⟩ := hc
  exact ⟨z * w, by rw [hz, hw, Int.pow_add]; grind⟩
theorem Mo.zeroP {p X c : Int} {a b : Nat} (h : Mo (p ^ a) X 0) (hc : Mo (p ^ b) c 0) : Mo (p ^ (a + b)) (X * c) 0 := by
  have := Mo.scaleP h hc
  rwa [Int.zero_mul] at this
theorem Mo.zero_mul {m X : Int} (c : Int) (h : Mo m X 0) : Mo m (X * c) 0 := by
  obtain ⟨z, hz⟩ := h
  exact ⟨z * c, by rw [hz]; grind⟩
theorem sms_tail {W : Int} {q : Nat → Int} {M : Nat} : ∀ N : Nat, M ≤ N → (∀ k, M < k → k ≤ N → Mo W (q k) 0) → Mo W (sms q N) (sms q M)
  | 0, h, _ => by
    have e : M = 0 := by omega
    subst e; exact .refl _ _
  | N + 1, h, t => by
    by_cases e : M = N + 1
    · subst e; exact .refl _ _
    · have ih := sms_tail N (by omega) fun k h1 h2 => t k h1 (by omega)
      rw [sms]
      exact (ih.add (t (N + 1) (by omega) (by omega))).trans (.of_eq (Int.add_zero _))
section
variable {p x : Int} {E : Nat}
theorem ex_tail (hp : p ∈ primesL) {e : Nat → Int} {N s k : Nat} (h : ExQ p E x e N) (hx : Mo (p ^ s) x 0) (hN : k ≤ N) (hs : E + wf p k ≤ s * k) : Mo (p ^ E) (e k) 0 := by
  obtain ⟨f1, f2⟩ := mfc_spec hp k
  have a := (h k hN).trans ((pow_mo0 hx k).low hs)
  refine Mo.canc hp f2 (v := wf p k) ?_
  rw [← f1, Int.mul_zero]; exact a
end
theorem LgQ.low {p x : Int} {E F N : Nat} {q : Nat → Int} (h : LgQ p E x q N) (hF : F ≤ E) : LgQ p F x q N := fun k h1 h2 => (h k h1 h2).low (by omega)
theorem ExQ.low {p x : Int} {E F N : Nat} {q : Nat → Int} (h : ExQ p E x q N) (hF : F ≤ E) : ExQ p F x q N := fun k h2 => (h k h2).low (by omega)
end PM
set_option Elab.async false
set_option linter.all false
set_option maxRecDepth 100000
set_option autoImplicit false
set_option exponentiation.threshold 20000
namespace PM
def cb : Nat → Nat → Int
  | _, 0 => 1
  | 0, _ + 1 => 0
  | n + 1, k + 1 => cb n k + cb n (k + 1)
theorem cb_zero (n : Nat) : cb n 0 = 1 := by cases n <;> rfl
theorem cb_step (n k : Nat) : cb (n + 1) (k + 1) = cb n k + cb n (k + 1) := rfl
theorem cb_abs : ∀ n k : Nat, ((k + 1 : Nat) : Int) * cb (n + 1) (k + 1) = ((n + 1 : Nat) : Int) * cb n k
  | 0, 0 => by rw [cb_step, cb_zero]; rfl
  | 0, k + 1 => by rw [cb_step]; show ((k + 1 + 1 : Nat) : Int) * (0 + 0) = ((0 + 1 : Nat) : Int) * 0; omega
  | n + 1, 0 => by
    have h := cb_abs n 0
    rw [cb_step (n + 1) 0, cb_zero]
    rw [cb_zero] at h
    have e : ((0 + 1 : Nat) : Int) = 1 := rfl
    rw [e] at h ⊢
    have e2 : ((n + 1 + 1 : Nat) : Int) = ((n + 1 : Nat) : Int) + 1 := by omega
    rw [e2]
    grind
  | n + 1, k + 1 => by
    have h1 := cb_abs n (k + 1)
    have h0 := cb_abs n k
    have s := cb_step (n + 1) (k + 1)
    have t := cb_step n k
    have e1 : ((k + 1 + 1 : Nat) : Int) = ((k + 1 : Nat) : Int) + 1 := by omega
    have e2 : ((n + 1 + 1 : Nat) : Int) = ((n + 1 : Nat) : Int) + 1 := by omega
    rw [e1] at h1
    rw [s, e1, e2]
    obtain ⟨a, ha⟩ : ∃ a, a = ((k + 1 : Nat) : Int) := ⟨_, rfl⟩
    obtain ⟨b, hb⟩ : ∃ b, b = ((n + 1 : Nat) : Int) := ⟨_, rfl⟩
    rw [← ha, ← hb] at h1 h0 ⊢
    grind
theorem cb_big : ∀ n k : Nat, n < k → cb n k = 0
  | _, 0, h => by omega
  | 0, k + 1, _ => rfl
  | n + 1, k + 1, h => by rw [cb_step, cb_big n k (by omega), cb_big n (k + 1) (by omega)]; rfl
def Lg (p : Int) (E : Nat) (x T : Int) : Prop := ∃ K0 : Nat, ∀ K : Nat, K0 ≤ K → Mo (p ^ (E + K)) (p ^ K * T) ((1 + x) ^ (p.toNat ^ K) - 1)
theorem Lg.low {p x T : Int} {E F : Nat} (h : Lg p E x T) (hF : F ≤ E) : Lg p F x T := by
  obtain ⟨K0, h⟩ := h
  exact ⟨K0, fun K hK => (h K hK).low (by omega)⟩
theorem Lg.mul {p x y T S : Int} {E : Nat} (h : Lg p E x T) (g : Lg p E y S) : Lg p E (x + y + x * y) (T + S) := by
  obtain ⟨K0, h⟩ := h
  obtain ⟨K1, g⟩ := g
  refine ⟨E + K0 + K1, fun K hK => ?_⟩
  have h := h K (by omega)
  have g := g K (by omega)
  obtain ⟨X, hX⟩ : ∃ X, X = (1 + x) ^ (p.toNat ^ K) - 1 := ⟨_, rfl⟩
  obtain ⟨Y, hY⟩ : ∃ Y, Y = (1 + y) ^ (p.toNat ^ K) - 1 := ⟨_, rfl⟩
  have e : (1 + (x + y + x * y)) ^ (p.toNat ^ K) - 1 = X + Y + X * Y := by
    have e1 : 1 + (x + y + x * y) = (1 + x) * (1 + y) := by grind
    rw [e1, Int.mul_pow, hX, hY]
    grind
  rw [← hX] at h
  rw [← hY] at g
  rw [e]
  have z : Mo (p ^ (E + K)) (X * Y) 0 := by
    have x0 : Mo (p ^ K) X 0 := (h.symm.low (by omega)).trans (Mo.zero T rfl)
    have y0 : Mo (p ^ K) Y 0 := (g.symm.low (by omega)).trans (Mo.zero S rfl)
    exact (Mo.zeroP x0 y0).low (by omega)
  have s := (h.add g).add z.symm
  exact (Mo.of_eq (by grind)).trans s
end PM
set_option Elab.async false
set_option linter.all false
set_option maxRecDepth 100000
set_option autoImplicit false
set_option exponentiation.threshold 20000
namespace PM
open PySem PySem.Spec L2 PL
open PyProof.Rows hiding St
theorem sms_front (f : Nat → Int) : ∀ M : Nat, sms f (M + 1) = f 0 + sms (fun i => f (i + 1)) M
  | 0 => rfl
  | M + 1 => by
    have ih := sms_front f M
    rw [show sms f (M + 1 + 1) = sms f (M + 1) + f (M + 1 + 1) from rfl, ih]
    show f 0 + sms (fun i => f (i + 1)) M + f (M + 1 + 1) = f 0 + (sms (fun i => f (i + 1)) M + f (M + 1 + 1))
    omega
theorem sms_add (f g : Nat → Int) : ∀ M : Nat, sms (fun i => f i + g i) M = sms f M + sms g M
  | 0 => rfl
  | M + 1 => by
    have ih := sms_add f g M
    show sms (fun i => f i + g i) M + (f (M + 1) + g (M + 1)) = sms f M + f (M + 1) + (sms g M + g (M + 1))
    omega
theorem sms_mul (c : Int) (f : Nat → Int) : ∀ M : Nat, sms (fun i => c * f i) M = c * sms f M
  | 0 => rfl
  | M + 1 => by
    have ih := sms_mul c f M
    show sms (fun i => c * f i) M + c * f (M + 1) = c * (sms f M + f (M + 1))
    rw [ih]; grind
theorem sms_ext {f g : Nat → Int} : ∀ M : Nat, (∀ i, i ≤ M → f i = g i) → sms f M = sms g M
  | 0, h => h 0 (Nat.le_refl _)
  | M + 1, h => by
    rw [sms, sms, sms_ext M fun i hi => h i (by omega), h (M + 1) (Nat.le_refl _)]
theorem sms_cong {W : Int} {f g : Nat → Int} : ∀ M : Nat, (∀ i, i ≤ M → Mo W (f i) (g i)) → Mo W (sms f M) (sms g M)
  | 0, h => h 0 (Nat.le_refl _)
  | M + 1, h => (sms_cong M fun i hi => h i (by omega)).add (h (M + 1) (Nat.le_refl _))
/-- a triangle of products, by rows and by columns -/
theorem tri (e f : Nat → Int) : ∀ N : Nat, sms (fun n => sms (fun i => e i * f (n - i)) n) N = sms (fun i => e i * sms f (N - i)) N
  | 0 => rfl
  | N + 1 => by
    have ih := tri e f N
    have e1 : sms (fun n => sms (fun i => e i * f (n - i)) n) (N + 1) = sms (fun n => sms (fun i => e i * f (n - i)) n) N + sms (fun i => e i * f (N + 1 - i)) (N + 1) := rfl
    have e2 : sms (fun i => e i * f (N + 1 - i)) (N + 1) = sms (fun i => e i * f (N + 1 - i)) N + e (N + 1) * f (N + 1 - (N + 1)) := rfl
    have e3 : sms (fun i => e i * sms f (N + 1 - i)) (N + 1) = sms (fun i => e i * sms f (N + 1 - i)) N + e (N + 1) * sms f (N + 1 - (N + 1)) := rfl
    have e4 : sms (fun i => e i * sms f (N + 1 - i)) N = sms (fun i => e i * sms f (N - i) + e i * f (N + 1 - i)) N := sms_ext N fun i hi => by
      rw [show N + 1 - i = (N - i) + 1 by omega, sms]; grind
    rw [e1, ih, e2, e3, e4, sms_add, Nat.sub_self]
    show _ = _ + e (N + 1) * f 0
    omega
theorem binom2 (y w : Int) : ∀ n M : Nat, n ≤ M → sms (fun i => cb n i * y ^ i * w ^ (M - i)) M = (y + w) ^ n * w ^ (M - n)
  | 0, M, _ => by
    cases M with
    | zero => show cb 0 0 * y ^ 0 * w ^ (0 - 0) = _; simp [cb_zero]
    | succ M =>
      rw [sms_front]
      have z : sms (fun i => cb 0 (i + 1) * y ^ (i + 1) * w ^ (M + 1 - (i + 1))) M = 0 := by
        have : sms (fun i => cb 0 (i + 1) * y ^ (i + 1) * w ^ (M + 1 - (i + 1))) M = sms (fun i => 0 * (0 : Int)) M := sms_ext M fun i _ => by rw [cb_big 0 (i + 1) (by omega)]; simp
        rw [this, sms_mul, Int.zero_mul]
      rw [z, cb_zero]; simp
  | n + 1, M, h => by
    obtain ⟨m, rfl⟩ : ∃ m, M = m + 1 := ⟨M - 1, by omega⟩
    have i1 := binom2 y w n (m + 1) (by omega)
    have i2 := binom2 y w n m (by omega)
    rw [sms_front] at i1 ⊢
    have e : sms (fun i => cb (n + 1) (i + 1) * y ^ (i + 1) * w ^ (m + 1 - (i + 1))) m = sms (fun i => cb n (i + 1) * y ^ (i + 1) * w ^ (m + 1 - (i + 1)) + y * (cb n i * y ^ i * w ^ (m - i))) m := sms_ext m fun i hi => by
      rw [cb_step, show m + 1 - (i + 1) = m - i by omega, Int.pow_succ]; grind
    rw [e, sms_add, sms_mul, i2]
    rw [cb_zero] at i1 ⊢
    rw [show m + 1 - n = (m - n) + 1 by omega, Int.pow_succ] at i1
    rw [show m + 1 - (n + 1) = m - n by omega, Int.pow_succ (y + w)]
    grind
theorem cb_fac : ∀ n k : Nat, k ≤ n → cb n k * fac k * fac (n - k) = fac n
  | n, 0, _ => by rw [cb_zero, fac, Nat.sub_zero]; omega
  | 0, k + 1, h => by omega
  | n + 1, k + 1, h => by
    have ih := cb_fac n k (by omega)
    have ab := cb_abs n k
    rw [show n + 1 - (k + 1) = n - k by omega, fac, fac, ← ih]
    grind
def Nr (p y : Int) : Prop := Mo (p ^ 1) y 0 ∧ (p = 2 → Mo (p ^ 2) y 0)
theorem Nr.add {p y w : Int} (h : Nr p y) (g : Nr p w) : Nr p (y + w) := by
  refine ⟨by have := h.1.add g.1; rwa [Int.add_zero] at this, fun e => by have := (h.2 e).add (g.2 e); rwa [Int.add_zero] at this⟩
theorem half {p y : Int} (hp : p ∈ primesL) (h : Nr p y) {E a i N : Nat} {e : Nat → Int} (he : ExQ p E y e N) (hi : i ≤ N) (ha : a ≤ E) (ha2 : a ≤ (i + 1) / 2) : Mo (p ^ a) (e i) 0 := by
  have hpb := primesL_le p hp
  by_cases i0 : i = 0
  · subst i0
    have : a = 0 := by omega
    subst this
    exact ⟨e 0, by simp⟩
  · have w := wf_le hpb.1 i (by omega)
    by_cases e2 : p = 2
    · exact ex_tail hp (he.low ha) (h.2 e2) hi (by omega)
    · refine ex_tail hp (he.low ha) h.1 hi ?_
      have w2 := wf_lt hpb.1 i (by omega)
      have : 2 * (wf p i : Int) ≤ (p - 1) * (wf p i : Int) := Int.mul_le_mul_of_nonneg_right (by omega) (by omega)
      omega
theorem wf_add {p : Int} (hp : p ∈ primesL) {n i : Nat} (hi : i ≤ n) : wf p i + wf p (n - i) ≤ wf p n := by
  have hpb := primesL_le p hp
  obtain ⟨a1, a2⟩ := mfc_spec hp i
  obtain ⟨b1, b2⟩ := mfc_spec hp (n - i)
  obtain ⟨c1, c2⟩ := mfc_spec hp n
  have cf := cb_fac n i hi
  rcases Nat.lt_or_ge (wf p n) (wf p i + wf p (n - i)) with g | g
  · exfalso
    obtain ⟨d, hd⟩ : ∃ d, wf p i + wf p (n - i) = wf p n + (d + 1) := ⟨wf p i + wf p (n - i) - wf p n - 1, by omega⟩
    have e : mfc p n * p ^ wf p n = cb n i * mfc p i * mfc p (n - i) * p ^ (d + 1) * p ^ wf p n := by
      rw [← c1, ← cf, a1, b1]
      have : p ^ wf p i * p ^ wf p (n - i) = p ^ wf p n * p ^ (d + 1) := by rw [← Int.pow_add, ← Int.pow_add, hd]
      grind
    have e2 := Int.eq_of_mul_eq_mul_right (Int.pow_ne_zero (show p ≠ 0 by omega)) e
    rw [e2, Int.pow_succ, ← Int.mul_assoc, Int.mul_emod_left] at c2
    exact c2 rfl
  · exact g
theorem cb_wf {p : Int} (hp : p ∈ primesL) {n i : Nat} (hi : i ≤ n) : Mo (p ^ (wf p n - (wf p i + wf p (n - i)))) (cb n i) 0 := by
  obtain ⟨a1, a2⟩ := mfc_spec hp i
  obtain ⟨b1, b2⟩ := mfc_spec hp (n - i)
  obtain ⟨c1, c2⟩ := mfc_spec hp n
  have cf := cb_fac n i hi
  have w := wf_add hp hi
  refine Mo.canc hp (prime_mulI hp a2 b2) (v := wf p i + wf p (n - i)) ?_
  rw [show wf p n - (wf p i + wf p (n - i)) + (wf p i + wf p (n - i)) = wf p n by omega, Int.mul_zero]
  refine Mo.zero (mfc p n) ?_
  have e : mfc p i * mfc p (n - i) * p ^ (wf p i + wf p (n - i)) * cb n i = cb n i * fac i * fac (n - i) := by rw [a1, b1, Int.pow_add]; grind
  rw [e, cf, c1, Int.mul_comm]
theorem nr_wf {p y : Int} (hp : p ∈ primesL) (h : Nr p y) (i : Nat) : Mo (p ^ wf p i) (y ^ i) 0 := by
  have hpb := primesL_le p hp
  have z := pow_mo0 h.1 i
  by_cases i0 : i = 0
  · subst i0; exact ⟨y ^ 0, by simp [wf]⟩
  · have w := wf_le hpb.1 i (by omega)
    exact z.low (by omega)
theorem conv {p y w : Int} (hp : p ∈ primesL) (hy : Nr p y) (hw : Nr p w) {E N : Nat} {e f : Nat → Int} (he : ExQ p E y e N) (hf : ExQ p E w f N) : ExQ p E (y + w) (fun n => sms (fun i => e i * f (n - i)) n) N := by
  intro n hn
  have b := binom2 y w n n (Nat.le_refl _)
  rw [Nat.sub_self, Int.pow_zero, Int.mul_one] at b
  rw [← b, ← sms_mul]
  refine sms_cong n fun i hi => ?_
  have cf := cb_fac n i hi
  have wa := wf_add hp hi
  have x1 := he i (by omega)
  have x2 := hf (n - i) (by omega)
  obtain ⟨b1, _⟩ := mfc_spec hp (n - i)
  have s1 := Mo.scaleP x1 (Mo.zero (m := p ^ wf p (n - i)) (mfc p (n - i) * f (n - i)) (show fac (n - i) * f (n - i) = _ by rw [b1]; grind))
  have s2 := Mo.scaleP x2 (nr_wf hp hy i)
  have s3 : Mo (p ^ (E + (wf p i + wf p (n - i)))) (fac i * e i * (fac (n - i) * f (n - i))) (y ^ i * w ^ (n - i)) := by
    rw [show E + wf p i + wf p (n - i) = E + (wf p i + wf p (n - i)) by omega] at s1
    rw [show E + wf p (n - i) + wf p i = E + (wf p i + wf p (n - i)) by omega] at s2
    exact s1.trans ((Mo.of_eq (Int.mul_comm _ _)).trans (s2.trans (.of_eq (Int.mul_comm _ _))))
  have s4 := Mo.scaleP s3 (cb_wf hp hi)
  rw [show E + (wf p i + wf p (n - i)) + (wf p n - (wf p i + wf p (n - i))) = E + wf p n by omega] at s4
  refine (Mo.of_eq ?_).trans (s4.trans (.of_eq (by grind)))
  rw [← cf]
  grind
def Ex (p : Int) (E : Nat) (y W : Int) : Prop := ∃ (e : Nat → Int), ExQ p E y e (2 * E + 1) ∧ Mo (p ^ E) W (sms e (2 * E + 1))
theorem Ex.low {p y W : Int} (hp : p ∈ primesL) (hy : Nr p y) {E F : Nat} (h : Ex p E y W) (hF : F ≤ E) : Ex p F y W := by
  obtain ⟨e, he, hW⟩ := h
  refine ⟨e, fun k hk => (he.low hF) k (by omega), (hW.low hF).trans ?_⟩
  exact sms_tail _ (by omega) fun k k1 k2 => half hp hy he k2 hF (by omega)
theorem Ex.add {p y w W Z : Int} (hp : p ∈ primesL) (hy : Nr p y) (hw : Nr p w) {E : Nat} (h : Ex p E y W) (g : Ex p E w Z) : Ex p E (y + w) (W * Z) := by
  obtain ⟨e, he, hW⟩ := h
  obtain ⟨f, hf, hZ⟩ := g
  obtain ⟨N, hN⟩ : ∃ N, N = 2 * E + 1 := ⟨_, rfl⟩
  rw [← hN] at he hW hf hZ
  refine ⟨_, by rw [← hN]; exact conv hp hy hw he hf, ?_⟩
  rw [← hN, tri]
  have s : Mo (p ^ E) (sms e N * sms f N) (sms (fun i => e i * sms f (N - i)) N) := by
    rw [Int.mul_comm, ← sms_mul]
    refine sms_cong N fun i hi => ?_
    rw [Int.mul_comm]
    obtain ⟨a, ha⟩ : ∃ a, a = min E ((i + 1) / 2) := ⟨_, rfl⟩
    have ea := half hp hy he hi (show a ≤ E by omega) (by omega)
    have ft : Mo (p ^ (E - a)) (sms f N) (sms f (N - i)) := sms_tail N (by omega) fun k k1 k2 => half hp hw hf k2 (by omega) (by omega)
    have t := Mo.scaleP ft ea
    rw [show E - a + a = E by omega] at t
    exact (Mo.of_eq (Int.mul_comm _ _)).trans (t.trans (.of_eq (Int.mul_comm _ _)))
  exact (hW.mul hZ).trans s
theorem Lg.inj {p x y T : Int} (hp : p ∈ primesL) (hx : Nr p x) (hy : Nr p y) {E : Nat} (h : Lg p E x T) (g : Lg p E y T) : Mo (p ^ E) x y := by
  have hpb := primesL_le p hp
  obtain ⟨K0, h⟩ := h
  obtain ⟨K1, g⟩ := g
  have e := (h (K0 + K1) (by omega)).symm.trans (g (K0 + K1) (by omega))
  obtain ⟨K, hK⟩ : ∃ K, K = K0 + K1 := ⟨_, rfl⟩
  rw [← hK] at e
  by_cases d0 : x - y = 0
  · exact .of_eq (by omega)
  obtain ⟨u, j, e1, e2, _⟩ := vp_spec hpb.1 d0
  rcases Nat.lt_or_ge j E with jE | jE
  · exfalso
    have near : ∀ s : Nat, Mo (p ^ s) (x - y) 0 → s ≤ j := fun s hs => by
      rcases Nat.lt_or_ge j s with g | g
      · exfalso
        obtain ⟨z, hz⟩ := hs
        rw [Int.zero_add, e1] at hz
        obtain ⟨d, hd⟩ : ∃ d, s = j + (d + 1) := ⟨s - j - 1, by omega⟩
        rw [hd, Int.pow_add] at hz
        have pj : p ^ j ≠ 0 := Int.pow_ne_zero (by omega)
        have : u = p ^ (d + 1) * z := Int.eq_of_mul_eq_mul_right pj (by rw [hz]; grind)
        rw [this, Int.pow_succ, Int.mul_assoc, Int.mul_comm p z, ← Int.mul_assoc, Int.mul_emod_left] at e2
        exact e2 rfl
      · exact g
    have j1 := near 1 (by have := hx.1.sub hy.1; rwa [Int.sub_self] at this)
    have j2 : p = 2 → 2 ≤ j := fun q => near 2 (by have := (hx.2 q).sub (hy.2 q); rwa [Int.sub_self] at this)
    have B1 : (1 + y) % p ≠ 0 := by
      obtain ⟨z, hz⟩ := hy.1
      rw [hz, Int.pow_succ, Int.pow_zero, Int.zero_add, Int.one_mul, Int.add_mul_emod_self_left, Int.emod_eq_of_lt (by omega) (by omega)]
      decide
    obtain ⟨y', q1, q2⟩ := lte_t hp B1 j u j1 j2 K
    have xe : 1 + x = 1 + y + p ^ j * u := by rw [Int.mul_comm]; omega
    rw [xe, q1] at e
    obtain ⟨z, hz⟩ := e
    have f : p ^ (j + K) * y' = p ^ (E + K) * z := by omega
    obtain ⟨d, hd⟩ : ∃ d, E + K = (j + K) + (d + 1) := ⟨E - j - 1, by omega⟩
    rw [hd, Int.pow_add p (j + K) (d + 1)] at f
    have pj : p ^ (j + K) ≠ 0 := Int.pow_ne_zero (by omega)
    have : y' = p ^ (d + 1) * z := Int.eq_of_mul_eq_mul_left pj (by rw [f]; grind)
    have q3 := q2 e2
    rw [this, Int.pow_succ, Int.mul_assoc, Int.mul_comm p z, ← Int.mul_assoc, Int.mul_emod_left] at q3
    exact q3 rfl
  · obtain ⟨d, rfl⟩ : ∃ d, j = E + d := ⟨j - E, by omega⟩
    refine ⟨u * p ^ d, ?_⟩
    rw [Int.pow_add] at e1
    have : u * (p ^ E * p ^ d) = p ^ E * (u * p ^ d) := by grind
    omega
end PM
set_option Elab.async false
set_option linter.all false
set_option maxRecDepth 100000
set_option autoImplicit false
set_option exponentiation.threshold 20000
namespace PM
open PySem PySem.Spec L2 PL
open PyProof.Rows hiding St
def at0 (l : List Int) (n : Nat) : Int := l.getD n 0
def prow (a b : List Int) (n : Nat) : Nat → Int
  | 0 => 0
  | k + 1 => prow a b n k + (if k ≤ n then at0 a k * at0 b (n - k) else 0)
/-- the list while row k is added, up to its m-th number -/
def Part (a b L : List Int) (k m : Nat) : Prop := L.length = a.length + b.length - 1 ∧ ∀ n, n < L.length → at0 L n = prow a b n k + (if k ≤ n ∧ n - k < m then at0 a k * at0 b (n - k) else 0)
theorem Part.next {a b L : List Int} {k m : Nat} (h : Part a b L k m) (hk : k < a.length) (hm : m < b.length) : Part a b (L.set (k + m) (at0 L (k + m) + at0 a k * at0 b m)) k (m + 1) := by
  obtain ⟨h1, h2⟩ := h
  have kl : k + m < L.length := by omega
  refine ⟨by rw [List.length_set, h1], fun n hn => ?_⟩
  rw [List.length_set] at hn
  by_cases e : n = k + m
  · subst e
    have : at0 (L.set (k + m) (at0 L (k + m) + at0 a k * at0 b m)) (k + m) = at0 L (k + m) + at0 a k * at0 b m := by
      unfold at0
      rw [List.getD_eq_getElem?_getD, List.getElem?_set_self kl, Option.getD_some]
    rw [this, h2 _ kl, if_neg (by omega), if_pos (by omega), Int.add_zero, Nat.add_sub_cancel_left]
  · have : at0 (L.set (k + m) (at0 L (k + m) + at0 a k * at0 b m)) n = at0 L n := by
      unfold at0
      rw [List.getD_eq_getElem?_getD, List.getElem?_set_ne (fun z => e z.symm), ← List.getD_eq_getElem?_getD]
    rw [this, h2 n hn]
    congr 1
    by_cases q : k ≤ n ∧ n - k < m
    · rw [if_pos q, if_pos (by omega)]
    · rw [if_neg q, if_neg (by omega)]
end PM
set_option Elab.async false
set_option linter.all false
set_option maxRecDepth 100000
set_option autoImplicit false
namespace K72
open PySem PySem.Spec L2 PL PM
open PyProof.Rows hiding St
noncomputable def D__law_cell_at : Rho → Out := (bSeq (sIf (tB1 (e2 ltP (eVo 1) (eD lenP (aCons (eVo 0) aNil)))) (bSeq (sRet (e2 ixP (eVo 0) (eVo 1))) bNil) bNil) (bSeq (sRet (eC (.int 0))) bNil))
noncomputable def F__law_cell_at : List PV → R PV := runF 2 D__law_cell_at
noncomputable def D__law_prime : Rho → Out := (bSeq (sSet 1 (eD lstP (aCons (eC (.int 2)) (aCons (eC (.int 3)) (aCons (eC (.int 5)) (aCons (eC (.int 7)) (aCons (eC (.int 11)) (aCons (eC (.int 13)) (aCons (eC (.int 17)) (aCons (eC (.int 19)) (aCons (eC (.int 23)) (aCons (eC (.int 29)) (aCons (eC (.int 31)) (aCons (eC (.int 37)) (aCons (eC (.int 41)) (aCons (eC (.int 43)) (aCons (eC (.int 47)) (aCons (eC (.int 53)) (aCons (eC (.int 59)) (aCons (eC (.int 61)) (aCons (eC (.int 67)) (aCons (eC (.int 71)) (aCons (eC (.int 73)) (aCons (eC (.int 79)) (aCons (eC (.int 83)) (aCons (eC (.int 89)) (aCons (eC (.int 97)) aNil))))))))))))))))))))))))))) (bSeq (sRet (e2 ixP (eVo 1) (e2 modP (eVo 0) (eC (.int 25))))) bNil))
noncomputable def F__law_prime : List PV → R PV := runF 2 D__law_prime
noncomputable def D__law_poly : Rho → Out := (bSeq (sSetO 2 (eD lstP aNil)) (bSeq (sFor (iR rng1 (aCons (eD lenP (aCons (eVo 0) aNil)) aNil)) (gN 3) (bSeq (sSet 4 (e2 subP (e2 modP (e2 fdivP (e2 ixP (eVo 0) (eVo 3)) (eC (.int 7))) (eC (.int 41))) (eC (.int 20)))) (bSeq (sIf (tB1 (e2 eqP (e2 modP (e2 ixP (eVo 0) (eVo 3)) (eC (.int 7))) (eC (.int 1)))) (bSeq (sSet 4 (e2 subP (e2 modP (e2 mulP (e2 fdivP (e2 ixP (eVo 0) (eVo 3)) (eC (.int 7))) (e2 addP (e2 powP (eC (.int 10)) (eC (.int 17))) (eC (.int 3)))) (e2 addP (e2 mulP (eC (.int 2)) (e2 powP (eC (.int 10)) (eC (.int 20)))) (eC (.int 1)))) (e2 powP (eC (.int 10)) (eC (.int 20))))) bNil) bNil) (bSeq (sIf (tB1 (e2 eqP (e2 modP (e2 ixP (eVo 0) (eVo 3)) (eC (.int 7))) (eC (.int 2)))) (bSeq (sSet 4 (eC (.int 0))) bNil) bNil) (bSeq (sFor (iR rng1 (aCons (e2 mulP (e2 modP (e2 fdivP (e2 ixP (eVo 0) (eVo 3)) (eC (.int 287))) (eC (.int 6))) (eD intP1 (aCons (e2 gtP (e2 modP (e2 ixP (eVo 0) (eVo 3)) (eC (.int 7))) (eC (.int 2))) aNil))) aNil)) (gN 5) (bSeq (sSet 4 (e2 mulP (eVo 4) (eVo 1))) bNil)) (bSeq (sMut 2 appP (eV 4)) bNil)))))) (bSeq (sIf (tB1 (e2 eqP (e2 ixP (eVo 2) (e1 negP (eC (.int 1)))) (eC (.int 0)))) (bSeq (sSetI 2 (eC (.int 1)) (e1 negP (eC (.int 1)))) bNil) bNil) (bSeq (sRetO 2) bNil))))
noncomputable def F__law_poly : List PV → R PV := runF 6 D__law_poly
noncomputable def D__law_whole : Rho → Out := (bSeq (sRet (eAn (e1 (isiP "int") (eVo 0)) (e1 notP (e1 (isiP "bool") (eVo 0))))) bNil)
noncomputable def F__law_whole : List PV → R PV := runF 1 D__law_whole
noncomputable def D__law_share : Rho → Out := (bSeq (sWh (tB1 (e2 neP (eVo 1) (eC (.int 0)))) (bSeq (sPar 0 1 (aCons (eV 1) (aCons (e2 modP (eVo 0) (eVo 1)) aNil))) bNil)) (bSeq (sRet (eD absP (aCons (eVo 0) aNil))) bNil))
noncomputable def F__law_share : List PV → R PV := runF 2 D__law_share
noncomputable def D__law_is_fraction : Rho → Out := (bSeq (sIf (tOr' (tNt (tB1 (e1 (isiP "tuple") (eVo 0)))) (tOr' (tB1 (e2 neP (eD lenP (aCons (eVo 0) aNil)) (eC (.int 2)))) (tOr' (tNt (tB1 (eD F__law_whole (aCons (e2 ixP (eVo 0) (eC (.int 0))) aNil)))) (tNt (tB1 (eD F__law_whole (aCons (e2 ixP (eVo 0) (eC (.int 1))) aNil))))))) (bSeq (sRet (eC (.bl false))) bNil) bNil) (bSeq (sRet (eAn (e2 gtP (e2 ixP (eVo 0) (eC (.int 1))) (eC (.int 0))) (e2 eqP (eD F__law_share (aCons (e2 ixP (eVo 0) (eC (.int 0))) (aCons (e2 ixP (eVo 0) (eC (.int 1))) aNil))) (eC (.int 1))))) bNil))
noncomputable def F__law_is_fraction : List PV → R PV := runF 1 D__law_is_fraction
noncomputable def D__law_are_pieces : Rho → Out := (bSeq (sIf (tNt (tB1 (e1 (isiP "list") (eVo 0)))) (bSeq (sRet (eC (.bl false))) bNil) bNil) (bSeq (sFor (iS (eV 0)) (gN 1) (bSeq (sIf (tOr' (tNt (tB1 (e1 (isiP "tuple") (eVo 1)))) (tOr' (tB1 (e2 neP (eD lenP (aCons (eVo 1) aNil)) (eC (.int 2)))) (tNt (tB1 (eD F__law_is_fraction (aCons (e2 ixP (eVo 1) (eC (.int 0))) aNil)))))) (bSeq (sRet (eC (.bl false))) bNil) bNil) (bSeq (sIf (tOr' (tNt (tB1 (eD F__law_whole (aCons (e2 ixP (eVo 1) (eC (.int 1))) aNil)))) (tB1 (e2 ltP (e2 ixP (eVo 1) (eC (.int 1))) (eC (.int 1))))) (bSeq (sRet (eC (.bl false))) bNil) bNil) bNil))) (bSeq (sRet (eC (.bl true))) bNil)))
noncomputable def F__law_are_pieces : List PV → R PV := runF 2 D__law_are_pieces
noncomputable def D_law : Rho → Out := (bSeq (sSet 1 (eD F__law_prime (aCons (eD F__law_cell_at (aCons (eV 0) (aCons (eC (.int 0)) aNil))) aNil))) (bSeq (sSet 2 (eSl slP (e2 addP (eSl slP (eVo 0) (oSome (eC (.int 2))) (oSome (e2 addP (e2 addP (eC (.int 2)) (eC (.int 2))) (e2 modP (eD F__law_cell_at (aCons (eV 0) (aCons (eC (.int 1)) aNil))) (eC (.int 8)))))) (eD lstP (aCons (eC (.int 3)) (aCons (eC (.int 10)) aNil)))) oNone (oSome (eC (.int 9))))) (bSeq (sSet 3 (eD F__law_poly (aCons (eV 2) (aCons (eV 1) aNil)))) (bSeq (sSet 4 (eD listP (aCons (eVo 3) aNil))) (bSeq (sSet 5 (eD F_sizes_of (aCons (eV 1) (aCons (eV 4) aNil)))) (bSeq (sIf (tOr' (tNt (tB1 (e1 (isiP "tuple") (eVo 5)))) (tOr' (tB1 (e2 neP (eD lenP (aCons (eVo 5) aNil)) (eC (.int 2)))) (tOr' (tNt (tB1 (eD F__law_whole (aCons (e2 ixP (eVo 5) (eC (.int 0))) aNil)))) (tNt (tB1 (eD F__law_are_pieces (aCons (e2 ixP (eVo 5) (eC (.int 1))) aNil))))))) (bSeq (sRet (eC (.bl false))) bNil) bNil) (bSeq (sIf (tOr' (tB1 (e2 neP (eLc [12] (iS (eSl slP (eVo 3) oNone (oSome (e2 ixP (eVo 5) (eC (.int 0)))))) (gN 12) (tB1 (e2 neP (eVo 12) (eC (.int 0)))) (eV 12)) (eD lstP aNil))) (tOr' (tB1 (e2 ltP (e2 ixP (eVo 5) (eC (.int 0))) (eC (.int 0)))) (tB1 (e2 eqP (e2 ixP (eVo 3) (e2 ixP (eVo 5) (eC (.int 0)))) (eC (.int 0)))))) (bSeq (sRet (eC (.bl false))) bNil) bNil) (bSeq (sSet 6 (eD F_corners_of (aCons (eV 1) (aCons (eV 3) aNil)))) (bSeq (sIf (tOr' (tB1 (e2 neP (eD lenP (aCons (e2 ixP (eVo 5) (eC (.int 1))) aNil)) (e2 subP (eD lenP (aCons (eVo 6) aNil)) (eC (.int 1))))) (tB1 (e2 neP (e2 addP (e2 ixP (eVo 5) (eC (.int 0))) (eD sumPL (aCons (eLc [13] (iS (e2 ixP (eVo 5) (eC (.int 1)))) (gN 13) cYes (e2 ixP (eVo 13) (eC (.int 1)))) aNil))) (e2 subP (eD lenP (aCons (eVo 3) aNil)) (eC (.int 1)))))) (bSeq (sRet (eC (.bl false))) bNil) bNil) (bSeq (sFor (iR rng1 (aCons (eD lenP (aCons (e2 ixP (eVo 5) (eC (.int 1))) aNil)) aNil)) (gN 7) (bSeq (sTo (gT (gsCons (gN 8) (gsCons (gN 9) gsNil))) (e2 ixP (e2 ixP (eVo 5) (eC (.int 1))) (eVo 7))) (bSeq (sSet 10 (e2 ixP (eVo 6) (e2 subP (e2 subP (eD lenP (aCons (eVo 6) aNil)) (eC (.int 1))) (eVo 7)))) (bSeq (sSet 11 (e2 ixP (eVo 6) (e2 subP (e2 subP (eD lenP (aCons (eVo 6) aNil)) (eC (.int 2))) (eVo 7)))) (bSeq (sIf (tOr' (tB1 (e2 neP (eVo 9) (e2 subP (e2 ixP (eVo 10) (eC (.int 0))) (e2 ixP (eVo 11) (eC (.int 0)))))) (tB1 (e2 neP (e2 mulP (e2 ixP (eVo 8) (eC (.int 0))) (eVo 9)) (e2 mulP (e2 subP (e2 ixP (eVo 11) (eC (.int 1))) (e2 ixP (eVo 10) (eC (.int 1)))) (e2 ixP (eVo 8) (eC (.int 1))))))) (bSeq (sRet (eC (.bl false))) bNil) bNil) (bSeq (sIf (tAn (tB1 (e2 gtP (eVo 7) (eC (.int 0)))) (tB1 (e2 geP (e2 mulP (e2 ixP (e2 ixP (e2 ixP (e2 ixP (eVo 5) (eC (.int 1))) (e2 subP (eVo 7) (eC (.int 1)))) (eC (.int 0))) (eC (.int 0))) (e2 ixP (eVo 8) (eC (.int 1)))) (e2 mulP (e2 ixP (eVo 8) (eC (.int 0))) (e2 ixP (e2 ixP (e2 ixP (e2 ixP (eVo 5) (eC (.int 1))) (e2 subP (eVo 7) (eC (.int 1)))) (eC (.int 0))) (eC (.int 1))))))) (bSeq (sRet (eC (.bl false))) bNil) bNil) bNil)))))) (bSeq (sNest 5 1 clearP) (bSeq (sRet (eAn (e2 eqP (eD lenP (aCons (e2 ixP (eD F_sizes_of (aCons (eV 1) (aCons (eV 4) aNil))) (eC (.int 1))) aNil)) (e2 subP (eD lenP (aCons (eVo 6) aNil)) (eC (.int 1)))) (e2 eqP (eVo 4) (eVo 3)))) bNil))))))))))))
noncomputable def F_law : List PV → R PV := runF 14 D_law
end K72
set_option Elab.async false
set_option linter.all false
set_option maxRecDepth 100000
set_option autoImplicit false
set_option exponentiation.threshold 20000
set_option maxHeartbeats 0
namespace K72
open PySem PySem.Spec L2 PL PM
open PyProof.Rows hiding St
theorem f_cell (ns : List Int) (k : Int) (h : 0 ≤ k) : F__law_cell_at [.frz (ns.map PV.int), .int k] = .ok (.int (nth ns k)) := by
  show (D__law_cell_at [.val (.frz (ns.map PV.int)), .val (.int k)]).res = _
  by_cases hk : k < ns.length
  · simp [D__law_cell_at, hk, ixP_intsF h hk]
  · have : ns[k.toNat]? = none := List.getElem?_eq_none (by omega)
    simp [D__law_cell_at, hk, nth, this]
theorem f_prime (c : Int) : F__law_prime [.int c] = .ok (.int (nth primesL (c % 25))) := by
  show (D__law_prime [.val (.int c), .un]).res = _
  have h25 : primesL.length = 25 := rfl
  have hl : lstP [.int 2, .int 3, .int 5, .int 7, .int 11, .int 13, .int 17, .int 19, .int 23, .int 29, .int 31, .int 37, .int 41, .int 43, .int 47, .int 53, .int 59, .int 61, .int 67, .int 71, .int 73, .int 79, .int 83, .int 89, .int 97] = .ok (.lst (primesL.map PV.int)) := lstP_ok (ps := primesL.map PV.int) (by rw [List.length_map]; omega)
  have e : ixP (.lst (primesL.map PV.int)) (.int (c % 25)) = .ok (.int (nth primesL (c % 25))) := ixP_ints (ns := primesL) (by omega) (by omega)
  have m := modP_pos (a := c) (b := 25) (by omega)
  simp only [D__law_prime, bSeq_eq, sSet_eq, eD_eq, aCons_eq, eC_eq, bind1, aNil_eq, hl, st_ok, then_next, List.set_cons_succ, List.set_cons_zero, sRet_eq, e2_eq, eVos, eVo0, m, e, then_ret, res_ret]
theorem prime_in (c : Int) : nth primesL (c % 25) ∈ primesL := nth_mem (by omega) (by have : primesL.length = 25 := rfl; omega)
theorem f_poly (p : Int) (cs : List Int) (hp : 2 ≤ p ∧ p ≤ 97) (h0 : cs ≠ []) (hl : cs.length ≤ 100) (hb : ∀ c ∈ cs, c.natAbs.log2 < 1048577) :
    ∃ as : List Int, F__law_poly [.lst (cs.map PV.int), .int p] = .ok (.lst (as.map PV.int)) ∧ as.length = cs.length ∧ as.getLast? ≠ some 0 ∧ ∀ a ∈ as, a.natAbs < 2 ^ 110 := by
  have p17 : powP (.int 10) (.int 17) = .ok (.int 100000000000000000) := by rw [powP_sm (by omega) (by omega) (by omega) (by omega)]; rfl
  have p20 : powP (.int 10) (.int 20) = .ok (.int 100000000000000000000) := by rw [powP_sm (by omega) (by omega) (by omega) (by omega)]; rfl
  have m2 : mulP (.int 2) (.int 100000000000000000000) = .ok (.int 200000000000000000000) := mulP_ii (okMul_of (m := 70) (n := 70) (by omega) (by omega) (by omega) (by omega) (by omega))
  have ib : ∀ b : Bool, intP1 [.bl b] = .ok (.int (if b = true then 1 else 0)) := fun b => rfl
  have ln : lenP [.lst (cs.map PV.int)] = .ok (.int cs.length) := by simp
  have hr : rng1 [.int (cs.length : Int)] = .ok (rngL 0 cs.length) := by rw [rng1_sm (by omega) (by omega)]; rfl
  have S : SeqI (.lst (cs.map PV.int)) cs := .inl rfl
  obtain ⟨ρ', e1, as, s4, s5, rfl, al, ab⟩ := forL_rng (tgt := gN 3) (body := (bSeq (sSet 4 (e2 subP (e2 modP (e2 fdivP (e2 ixP (eVo 0) (eVo 3)) (eC (.int 7))) (eC (.int 41))) (eC (.int 20)))) (bSeq (sIf (tB1 (e2 eqP (e2 modP (e2 ixP (eVo 0) (eVo 3)) (eC (.int 7))) (eC (.int 1)))) (bSeq (sSet 4 (e2 subP (e2 modP (e2 mulP (e2 fdivP (e2 ixP (eVo 0) (eVo 3)) (eC (.int 7))) (e2 addP (e2 powP (eC (.int 10)) (eC (.int 17))) (eC (.int 3)))) (e2 addP (e2 mulP (eC (.int 2)) (e2 powP (eC (.int 10)) (eC (.int 20)))) (eC (.int 1)))) (e2 powP (eC (.int 10)) (eC (.int 20))))) bNil) bNil) (bSeq (sIf (tB1 (e2 eqP (e2 modP (e2 ixP (eVo 0) (eVo 3)) (eC (.int 7))) (eC (.int 2)))) (bSeq (sSet 4 (eC (.int 0))) bNil) bNil) (bSeq (sFor (iR rng1 (aCons (e2 mulP (e2 modP (e2 fdivP (e2 ixP (eVo 0) (eVo 3)) (eC (.int 287))) (eC (.int 6))) (eD intP1 (aCons (e2 gtP (e2 modP (e2 ixP (eVo 0) (eVo 3)) (eC (.int 7))) (eC (.int 2))) aNil))) aNil)) (gN 5) (bSeq (sSet 4 (e2 mulP (eVo 4) (eVo 1))) bNil)) (bSeq (sMut 2 appP (eV 4)) bNil))))))
    (fun k ρ => ∃ (as : List Int) (s4 s5 : Slot), ρ = [.val (.lst (cs.map PV.int)), .val (.int p), .own (as.map PV.int), (if k = 0 then .un else .val (.int ((k : Int) - 1))), s4, s5] ∧ as.length = k ∧ ∀ a ∈ as, a.natAbs < 2 ^ 110) 0 cs.length [.val (.lst (cs.map PV.int)), .val (.int p), .own [], .un, .un, .un]
    ⟨[], .un, .un, rfl, rfl, fun _ h => nomatch h⟩ (fun k ρ hk ⟨as, s4, s5, e, al, ab⟩ => by
      subst e
      obtain ⟨c, hc⟩ : ∃ c, c = cs.getD k 0 := ⟨_, rfl⟩
      have i := S.ix k hk
      rw [← hc, show ((k : Nat) : Int) = 0 + k by omega] at i
      have cb : c.natAbs.log2 < 1048577 := by
        rw [hc, List.getD_eq_getElem?_getD, List.getElem?_eq_getElem hk]
        exact hb _ (List.getElem_mem hk)
      have d7 := fdivP_sm (a := c) (b := 7) (by omega) (by omega)
      have d287 := fdivP_sm (a := c) (b := 287) (by omega) (by omega)
      have r7 := modP_pos (a := c) (b := 7) (by omega)
      have r41 := modP_pos (a := c / 7) (b := 41) (by omega)
      have r6 := modP_pos (a := c / 287) (b := 6) (by omega)
      have mm : mulP (.int (c / 7)) (.int 100000000000000003) = .ok (.int (c / 7 * 100000000000000003)) := mulP_ii (okMul_log (log2_le_lt (show (c / 7).natAbs ≤ c.natAbs by omega) cb) (n := 100) (by decide) (by omega))
      have rm := modP_pos (a := c / 7 * 100000000000000003) (b := 200000000000000000001) (by omega)
      obtain ⟨g, hg⟩ : ∃ g, g = decide (c % 7 > 2) := ⟨_, rfl⟩
      obtain ⟨t, ht, ht5⟩ : ∃ t : Nat, mulP (.int (c / 287 % 6)) (.int (if g = true then 1 else 0)) = .ok (.int t) ∧ t ≤ 5 := by
        cases g with
        | true => exact ⟨(c / 287 % 6).toNat, by rw [if_pos rfl, mulP_sm (by omega) (by omega) (by omega) (by omega), show c / 287 % 6 * 1 = (((c / 287 % 6).toNat : Nat) : Int) by omega], by omega⟩
        | false => exact ⟨0, by rw [if_neg Bool.false_ne_true, mulP_sm (by omega) (by omega) (by omega) (by omega), show c / 287 % 6 * 0 = ((0 : Nat) : Int) by omega], by omega⟩
      have rt : rng1 [.int (t : Int)] = .ok (rngL 0 t) := by rw [rng1_sm (by omega) (by omega)]; rfl
      obtain ⟨x, hx⟩ : ∃ x : Int, x = if c % 7 = 1 then c / 7 * 100000000000000003 % 200000000000000000001 - 100000000000000000000 else if c % 7 = 2 then 0 else c / 7 % 41 - 20 := ⟨_, rfl⟩
      have xb : x.natAbs ≤ 100000000000000000000 := by
        rw [hx]
        split
        · omega
        · split <;> omega
      have hl := mul_loop (i := 4) (j := 1) (a := 5) (ρ := [.val (.lst (cs.map PV.int)), .val (.int p), .own (as.map PV.int), .val (.int (0 + (k : Int))), .val (.int x), s5]) (x := x) (y := p) t rfl rfl (by omega) (by omega) (by omega) (by simp) (by omega) (by omega) (by omega)
      have ap : appP (as.map PV.int) (.int (x * p ^ t)) = .ok ((as ++ [x * p ^ t]).map PV.int) := by rw [appP_ok (by rw [List.length_map]; omega), List.map_append]; rfl
      have xp : (x * p ^ t).natAbs < 2 ^ 110 := mul_lt (m := 67) (by omega) (sz_le (pow_sz hp.1 hp.2 t) (show 7 * t + 1 ≤ 36 by omega)) (by omega)
      refine ⟨_, .inl ?_, as ++ [x * p ^ t], .val (.int (x * p ^ t)), lastS [.val (.lst (cs.map PV.int)), .val (.int p), .own (as.map PV.int), .val (.int (0 + (k : Int))), .val (.int x), s5] 5 t, rfl, by simp [al], fun a ha => ?_⟩
      · rw [if_neg (show ¬ (k + 1 = 0) by omega), show ((k + 1 : Nat) : Int) - 1 = 0 + k by omega]
        have st : ∀ s4, (bSeq (sFor (iR rng1 (aCons (e2 mulP (e2 modP (e2 fdivP (e2 ixP (eVo 0) (eVo 3)) (eC (.int 287))) (eC (.int 6))) (eD intP1 (aCons (e2 gtP (e2 modP (e2 ixP (eVo 0) (eVo 3)) (eC (.int 7))) (eC (.int 2))) aNil))) aNil)) (gN 5) (bSeq (sSet 4 (e2 mulP (eVo 4) (eVo 1))) bNil)) (bSeq (sMut 2 appP (eV 4)) bNil)) [.val (.lst (cs.map PV.int)), .val (.int p), .own (as.map PV.int), .val (.int (0 + (k : Int))), .val (.int x), s4] = .next [.val (.lst (cs.map PV.int)), .val (.int p), .own ((as ++ [x * p ^ t]).map PV.int), .val (.int (0 + (k : Int))), .val (.int (x * p ^ t)), lastS [.val (.lst (cs.map PV.int)), .val (.int p), .own (as.map PV.int), .val (.int (0 + (k : Int))), .val (.int x), s4] 5 t] := fun s4 => by
          have hl := mul_loop (i := 4) (j := 1) (a := 5) (ρ := [.val (.lst (cs.map PV.int)), .val (.int p), .own (as.map PV.int), .val (.int (0 + (k : Int))), .val (.int x), s4]) (x := x) (y := p) t rfl rfl (by omega) (by omega) (by omega) (by simp) (by omega) (by omega) (by omega)
          simp only [bSeq_eq, sFor_eq, iR_eq, e2_eq, eD_eq, aCons_eq, aNil_eq, eC_eq, eVo0, eVos, bind1, i, d287, r6, r7, gtP_ii, ← hg, ib, ht, rt, stL_ok, hl, List.set_cons_succ, List.set_cons_zero, then_next, sMut_eq, getOwn0, getOwnS, onOwn_some, eV0, eVs, st_ok, ap, own_ok, bNil_eq]
        by_cases c1 : c % 7 = 1
        · have c1' : (c % 7 == 1) = true := by simpa using c1
          have c2' : (c % 7 == 2) = false := by rw [beq_eq_false_iff_ne]; omega
          rw [if_pos c1] at hx
          simp only [turnL, gN_eq, List.set_cons_succ, List.set_cons_zero, bSeq_eq, sSet_eq, sIf_eq, tB1_eq, e2_eq, eC_eq, eVo0, eVos, bind1, i, d7, r41, r7, subP_ii, st_ok, then_next, List.set_cons_succ, List.set_cons_zero, eqP_ii, c1', c2', asB_eq, stB_ok, if_true, if_neg Bool.false_ne_true, p17, p20, addP_ii, show (100000000000000000 : Int) + 3 = 100000000000000003 from rfl, mm, m2, show (200000000000000000000 : Int) + 1 = 200000000000000000001 from rfl, rm, bNil_eq]
          rw [← hx]
          have := st s5
          simp only [bSeq_eq] at this
          exact this
        · have c1' : (c % 7 == 1) = false := by simpa using c1
          rw [if_neg c1] at hx
          by_cases c2 : c % 7 = 2
          · have c2' : (c % 7 == 2) = true := by simpa using c2
            rw [if_pos c2] at hx
            simp only [turnL, gN_eq, List.set_cons_succ, List.set_cons_zero, bSeq_eq, sSet_eq, sIf_eq, tB1_eq, e2_eq, eC_eq, eVo0, eVos, bind1, i, d7, r41, r7, subP_ii, st_ok, then_next, List.set_cons_succ, List.set_cons_zero, eqP_ii, c1', c2', asB_eq, stB_ok, if_true, if_neg Bool.false_ne_true, bNil_eq]
            have := st s5
            simp only [bSeq_eq] at this
            rw [hx] at this ⊢
            exact this
          · have c2' : (c % 7 == 2) = false := by simpa using c2
            rw [if_neg c2] at hx
            simp only [turnL, gN_eq, List.set_cons_succ, List.set_cons_zero, bSeq_eq, sSet_eq, sIf_eq, tB1_eq, e2_eq, eC_eq, eVo0, eVos, bind1, i, d7, r41, r7, subP_ii, st_ok, then_next, List.set_cons_succ, List.set_cons_zero, eqP_ii, c1', c2', asB_eq, stB_ok, if_true, if_neg Bool.false_ne_true, bNil_eq]
            rw [← hx]
            have := st s5
            simp only [bSeq_eq] at this
            exact this
      · rcases List.mem_append.mp ha with ha | ha
        · exact ab a ha
        · rw [List.mem_singleton.mp ha]; exact xp)
  have hn : as ≠ [] := fun z => by
    rw [z] at al
    exact h0 (List.length_eq_zero_iff.mp al.symm)
  obtain ⟨l, y, hly⟩ : ∃ l y, as = l ++ [y] := ⟨as.dropLast, as.getLast hn, (List.dropLast_concat_getLast hn).symm⟩
  have go : ∀ {o : R PV}, (D__law_poly [.val (.lst (cs.map PV.int)), .val (.int p), .un, .un, .un, .un]).res = o → F__law_poly [.lst (cs.map PV.int), .int p] = o := fun h => (runF_eq (n := 6) (u := D__law_poly)).trans h
  have t0 : lstP [] = .ok (.lst []) := lstP_ok (by simp)
  have lx : ixP (.lst ((l ++ [y]).map PV.int)) (.int (-1)) = .ok (.int y) := by rw [List.map_append]; exact ixP_last _ _
  rw [hly] at al ab e1
  by_cases hy : y = 0
  · have sp : setP ((l ++ [y]).map PV.int) (.int 1) (.int (-1)) = .ok ((l ++ [1]).map PV.int) := by
      have e : ixN ((l ++ [y]).map PV.int).length (-1) = some l.length := by
        unfold ixN
        rw [if_neg (by omega), List.length_map, List.length_append, List.length_singleton, if_pos (by omega)]
        exact congrArg some (by omega)
      unfold setP
      dsimp only
      rw [e]
      simp
    refine ⟨l ++ [1], go ?_, by simpa using al, by simp, fun a ha => ?_⟩
    · unfold D__law_poly
      refine stpN (ρ' := [.val (.lst (cs.map PV.int)), .val (.int p), .own [], .un, .un, .un]) (by simp [t0]) ?_
      refine stpFor (rngL 0 cs.length) _ (by simp only [iR_eq, eD_eq, aCons_eq, aNil_eq, eVo0, bind1, ln, hr]) e1 ?_
      refine stpN (ρ' := [.val (.lst (cs.map PV.int)), .val (.int p), .own ((l ++ [1]).map PV.int), (if cs.length = 0 then .un else .val (.int ((cs.length : Int) - 1))), s4, s5]) (by
        have y' : (y == 0) = true := by simpa using hy
        simp only [sIf_eq, tB1_eq, e2_eq, e1_eq, eC_eq, eVo0', eVos, bind1, negP_eq, lx, eqP_ii, y', asB_eq, stB_ok, if_true, bSeq_eq, sSetI_eq, getOwn0, getOwnS, onOwn_some, st_ok, sp, own_ok, List.set_cons_succ, List.set_cons_zero, then_next, bNil_eq]) ?_
      simp
    · rcases List.mem_append.mp ha with ha | ha
      · exact ab a (List.mem_append_left _ ha)
      · rw [List.mem_singleton.mp ha]; decide
  · refine ⟨l ++ [y], go ?_, al, by simpa using hy, ab⟩
    unfold D__law_poly
    refine stpN (ρ' := [.val (.lst (cs.map PV.int)), .val (.int p), .own [], .un, .un, .un]) (by simp [t0]) ?_
    refine stpFor (rngL 0 cs.length) _ (by simp only [iR_eq, eD_eq, aCons_eq, aNil_eq, eVo0, bind1, ln, hr]) e1 ?_
    refine skp (by
      have y' : (y == 0) = false := by simpa using hy
      simp only [tB1_eq, e2_eq, e1_eq, eC_eq, eVo0', eVos, bind1, negP_eq, lx, eqP_ii, y', asB_eq]) ?_
    simp
theorem f_whole (p : PV) : F__law_whole [p] = .ok (.bl (isW p)) := by
  show (D__law_whole [.val p]).res = _
  simp [D__law_whole, whole_eq]
theorem f_share (a b : Int) (hb : 1 ≤ b) (hg : Int.gcd a b = 1) : F__law_share [.int a, .int b] = .ok (.int 1) := by
  obtain ⟨y, hy⟩ : ∃ y : Nat, a % b = y := ⟨(a % b).toNat, by have := Int.emod_nonneg a (show b ≠ 0 by omega); omega⟩
  obtain ⟨x, hx⟩ : ∃ x : Nat, b = x := ⟨b.toNat, by omega⟩
  have g : Nat.gcd x y = 1 := by
    have h1 : Int.gcd (a % b) b = Int.gcd a b := gcd_mod _ _
    rw [hy, hg, hx, Int.gcd_comm] at h1
    exact h1
  have r := gcd_run (tB1 (e2 neP (eVo 1) (eC (.int 0)))) (fun x y => by
    have q : (!((y : Int) == 0)) = decide (y ≠ 0) := by
      by_cases h : y = 0
      · subst h; rfl
      · have : ((y : Int) == 0) = false := by rw [beq_eq_false_iff_ne]; omega
        rw [this, decide_eq_true h]; rfl
    simp only [tB1_eq, e2_eq, eVos, eVo0, eC_eq, bind1, neP_ii, asB_eq, q]) y x
  rw [g] at r
  have m := modP_pos (a := a) (b := b) (by omega)
  have nz : (!(b == 0)) = true := by
    have : (b == 0) = false := by rw [beq_eq_false_iff_ne]; omega
    rw [this]; rfl
  have w : sWh (tB1 (e2 neP (eVo 1) (eC (.int 0)))) (bSeq (sPar 0 1 (aCons (eV 1) (aCons (e2 modP (eVo 0) (eVo 1)) aNil))) bNil) [.val (.int a), .val (.int b)] = .next [.val (.int 1), .val (.int 0)] := by
    rw [sWh_eq]
    simp only [tB1_eq, e2_eq, eC_eq, eVos, eVo0, bind1, neP_ii, nz, asB_eq]
    have b1 : bSeq (sPar 0 1 (aCons (eV 1) (aCons (e2 modP (eVo 0) (eVo 1)) aNil))) bNil [.val (.int a), .val (.int b)] = .next [.val (.int x), .val (.int y)] := by
      simp only [bSeq_eq, sPar_eq, aCons_eq, aNil_eq, e2_eq, eV0, eVs, eVos, eVo0, bind1, m, st_ok, List.set_cons_succ, List.set_cons_zero, then_next, bNil_eq, hy]
      rw [hx]
    rw [b1]
    exact r
  refine (runF_eq (n := 2) (u := D__law_share)).trans ?_
  show (D__law_share [.val (.int a), .val (.int b)]).res = _
  unfold D__law_share
  refine stpN w ?_
  simp only [bSeq_eq, sRet_eq, eD_eq, aCons_eq, aNil_eq, eVo0, bind1, absP_i, st_ok, then_ret, res_ret]
  rfl
theorem f_is_fraction_l (t b : Int) (hb : b ≠ 0) : F__law_is_fraction [fracV (ftop t b) (fbot t b)] = .ok (.bl true) := by
  have D0 := fbot_pos (t := t) hb
  have S := f_share (ftop t b) (fbot t b) (by omega) (flow hb)
  have it : isiP "tuple" (fracV (ftop t b) (fbot t b)) = .ok (.bl true) := by rw [isi_tuple]; rfl
  have ln : lenP [fracV (ftop t b) (fbot t b)] = .ok (.int 2) := rfl
  have x0 : ixP (fracV (ftop t b) (fbot t b)) (.int 0) = .ok (.int (ftop t b)) := rfl
  have x1 : ixP (fracV (ftop t b) (fbot t b)) (.int 1) = .ok (.int (fbot t b)) := rfl
  have wi : ∀ z : Int, F__law_whole [.int z] = .ok (.bl true) := fun z => by rw [f_whole]; rfl
  obtain ⟨V, hV⟩ : ∃ V, V = fracV (ftop t b) (fbot t b) := ⟨_, rfl⟩
  rw [← hV] at it ln x0 x1 ⊢
  refine (runF_eq (n := 1) (u := D__law_is_fraction)).trans ?_
  show (D__law_is_fraction [.val V]).res = _
  have g : decide (fbot t b > 0) = true := decide_eq_true D0
  unfold D__law_is_fraction
  refine skp (by simp only [tOr_eq, tNt_eq, tB1_eq, e1_eq, e2_eq, eD_eq, aCons_eq, aNil_eq, eC_eq, eVo0, bind1, it, ln, neP_ii, show (!((2 : Int) == 2)) = false from rfl, x0, x1, wi, asB_eq, Bool.not_true, if_neg Bool.false_ne_true]) ?_
  simp only [bSeq_eq, sRet_eq, eAn_eq, e2_eq, eD_eq, aCons_eq, aNil_eq, eC_eq, eVo0, bind1, x0, x1, gtP_ii, g, S, eqP_ii, beq_self_eq_true, asB_eq, if_true, st_ok, then_ret, res_ret]
theorem pieces_loop (x : PV) : ∀ (S : List Pt) (s1 : Slot), Dwn S → ∃ s1', forL (gN 1) (bSeq (sIf (tOr' (tNt (tB1 (e1 (isiP "tuple") (eVo 1)))) (tOr' (tB1 (e2 neP (eD lenP (aCons (eVo 1) aNil)) (eC (.int 2)))) (tNt (tB1 (eD F__law_is_fraction (aCons (e2 ixP (eVo 1) (eC (.int 0))) aNil)))))) (bSeq (sRet (eC (.bl false))) bNil) bNil) (bSeq (sIf (tOr' (tNt (tB1 (eD F__law_whole (aCons (e2 ixP (eVo 1) (eC (.int 1))) aNil)))) (tB1 (e2 ltP (e2 ixP (eVo 1) (eC (.int 1))) (eC (.int 1))))) (bSeq (sRet (eC (.bl false))) bNil) bNil) bNil)) (pcsV S) [.val x, s1] = .next [.val x, s1']
  | [], s1, _ => ⟨s1, by rw [show pcsV [] = [] from rfl, forL_nil]⟩
  | [q], s1, _ => ⟨s1, by rw [show pcsV [q] = [] from rfl, forL_nil]⟩
  | b :: a :: S, s1, h => by
    obtain ⟨s1', ih⟩ := pieces_loop x (a :: S) (.val (pcV a b)) h.2
    have hab := h.1
    have fr := f_is_fraction_l (a.2 - b.2) (b.1 - a.1) (by omega)
    have it : isiP "tuple" (pcV a b) = .ok (.bl true) := by rw [isi_tuple]; rfl
    have ln : lenP [pcV a b] = .ok (.int 2) := rfl
    have x0 : ixP (pcV a b) (.int 0) = .ok (fracV (ftop (a.2 - b.2) (b.1 - a.1)) (fbot (a.2 - b.2) (b.1 - a.1))) := rfl
    have x1 : ixP (pcV a b) (.int 1) = .ok (.int (b.1 - a.1)) := rfl
    have wi : ∀ z : Int, F__law_whole [.int z] = .ok (.bl true) := fun z => by rw [f_whole]; rfl
    have lt : decide (b.1 - a.1 < 1) = false := decide_eq_false (by omega)
    refine ⟨s1', ?_⟩
    rw [← ih, pcsV, forL_cons, gN_eq, onR_some]
    simp only [List.set_cons_succ, List.set_cons_zero]
    have q : bSeq (sIf (tOr' (tNt (tB1 (e1 (isiP "tuple") (eVo 1)))) (tOr' (tB1 (e2 neP (eD lenP (aCons (eVo 1) aNil)) (eC (.int 2)))) (tNt (tB1 (eD F__law_is_fraction (aCons (e2 ixP (eVo 1) (eC (.int 0))) aNil)))))) (bSeq (sRet (eC (.bl false))) bNil) bNil) (bSeq (sIf (tOr' (tNt (tB1 (eD F__law_whole (aCons (e2 ixP (eVo 1) (eC (.int 1))) aNil)))) (tB1 (e2 ltP (e2 ixP (eVo 1) (eC (.int 1))) (eC (.int 1))))) (bSeq (sRet (eC (.bl false))) bNil) bNil) bNil) [.val x, .val (pcV a b)] = .next [.val x, .val (pcV a b)] :=
      sqK (by simp only [tOr_eq, tNt_eq, tB1_eq, e1_eq, e2_eq, eD_eq, aCons_eq, aNil_eq, eC_eq, eVos, eVo0, bind1, it, ln, neP_ii, show (!((2 : Int) == 2)) = false from rfl, x0, fr, asB_eq, Bool.not_true, if_neg Bool.false_ne_true])
        (sqK (by simp only [tOr_eq, tNt_eq, tB1_eq, e2_eq, eD_eq, aCons_eq, aNil_eq, eC_eq, eVos, eVo0, bind1, x1, wi, ltP_ii, lt, asB_eq, Bool.not_true, if_neg Bool.false_ne_true]) rfl)
    rw [q, fo_next]
theorem f_are_pieces (S : List Pt) (h : Dwn S) : F__law_are_pieces [.lst (pcsV S)] = .ok (.bl true) := by
  obtain ⟨s1, lp⟩ := pieces_loop (.lst (pcsV S)) S .un h
  have il : isiP "list" (.lst (pcsV S)) = .ok (.bl true) := by rw [isi_list]; rfl
  refine (runF_eq (n := 2) (u := D__law_are_pieces)).trans ?_
  show (D__law_are_pieces [.val (.lst (pcsV S)), .un]).res = _
  unfold D__law_are_pieces
  refine skp (by simp only [tNt_eq, tB1_eq, e1_eq, eVo0, bind1, il, asB_eq, Bool.not_true]) ?_
  refine stpFor (pcsV S) _ (by simp) lp ?_
  simp
theorem pcs_len : ∀ S : List Pt, (pcsV S).length = S.length - 1
  | [] => rfl
  | [_] => rfl
  | b :: a :: r => by rw [pcsV, List.length_cons, pcs_len (a :: r)]; simp
theorem pcs_get : ∀ (S : List Pt) (k : Nat) (c a : Pt), S[k]? = some c → S[k + 1]? = some a → (pcsV S)[k]? = some (pcV a c)
  | [], k, c, a, h, _ => by simp at h
  | [_], k, c, a, _, h => by simp at h
  | b :: d :: r, 0, c, a, h1, h2 => by
    simp at h1 h2
    rw [pcsV, h1, h2]; rfl
  | b :: d :: r, k + 1, c, a, h1, h2 => by
    rw [pcsV]
    exact pcs_get (d :: r) k c a (by simpa using h1) (by simpa using h2)
theorem Cv.pair {S : List Pt} : ∀ {s : List Pt}, Cv S s → ∀ k, k + 1 < s.length → ∃ c a, s[k]? = some c ∧ s[k + 1]? = some a ∧ a.1 < c.1 ∧ ∀ z, s[k + 2]? = some z → Rises z a c
  | [], _, k, h => by simp at h
  | [_], _, k, h => by simp at h
  | b :: a :: r, h, 0, _ => ⟨b, a, rfl, rfl, h.2.1, fun z hz => h.2.2.2.1 z (by rw [List.head?_eq_getElem?]; simpa using hz)⟩
  | b :: a :: r, h, k + 1, hk => by
    obtain ⟨c, d, h1, h2, h3, h4⟩ := Cv.pair h.2.2.2.2 k (by simpa using hk)
    exact ⟨c, d, by simpa using h1, by simpa using h2, h3, fun z hz => h4 z (by simpa using hz)⟩
def wid : List Pt → List Int
  | b :: a :: r => (b.1 - a.1) :: wid (a :: r)
  | _ => []
theorem wid_sum : ∀ (S : List Pt) (b q : Pt), S.head? = some b → S.getLast? = some q → (wid S).sum = b.1 - q.1
  | [], _, _, h, _ => nomatch h
  | [a], b, q, h1, h2 => by cases h1; cases h2; simp [wid]
  | c :: a :: r, b, q, h1, h2 => by
    cases h1
    have ih := wid_sum (a :: r) a q rfl (by rw [List.getLast?_cons_cons] at h2; exact h2)
    rw [wid, List.sum_cons, ih]; omega
theorem wid_lc (a0 a1 a2 a3 a4 a5 a6 a7 a8 a9 a10 a11 a12 : Slot) : ∀ S : List Pt, lcGo (gN 13) cYes (e2 ixP (eVo 13) (eC (.int 1))) [a0, a1, a2, a3, a4, a5, a6, a7, a8, a9, a10, a11, a12, .un] (pcsV S) = .ok ((wid S).map PV.int)
  | [] => rfl
  | [_] => rfl
  | b :: a :: r => by
    have ih := wid_lc a0 a1 a2 a3 a4 a5 a6 a7 a8 a9 a10 a11 a12 (a :: r)
    have x1 : ixP (pcV a b) (.int 1) = .ok (.int (b.1 - a.1)) := rfl
    rw [pcsV, lcGo, gN_eq]
    dsimp only [cYes, List.set_cons_succ, List.set_cons_zero]
    rw [show e2 ixP (eVo 13) (eC (.int 1)) [a0, a1, a2, a3, a4, a5, a6, a7, a8, a9, a10, a11, a12, .val (pcV a b)] = .ok (.int (b.1 - a.1)) by simp only [e2_eq, eC_eq, eVos, eVo0, bind1, x1]]
    dsimp only
    rw [ih, wid, List.map_cons]
theorem pts_first (p : Int) : ∀ (as : List Int) (n : Nat) (q : Pt), (pts p n as).head? = some q → ∃ (z : Nat) (x : Int) (t : List Int), as = List.replicate z 0 ++ x :: t ∧ x ≠ 0 ∧ q.1 = ((n + z : Nat) : Int)
  | [], _, _, h => nomatch h
  | a :: r, n, q, h => by
    by_cases z : a = 0
    · subst z
      rw [pts_cons0] at h
      obtain ⟨z, x, t, h1, h2, h3⟩ := pts_first p r (n + 1) q h
      exact ⟨z + 1, x, t, by rw [List.replicate_succ, List.cons_append, ← h1], h2, by rw [h3]; omega⟩
    · rw [pts_cons p n r z] at h
      cases h
      exact ⟨0, a, r, rfl, z, by simp⟩
theorem zero_lc (a0 a1 a2 a3 a4 a5 a6 a7 a8 a9 a10 a11 a13 : Slot) : ∀ (z : Nat), lcGo (gN 12) (tB1 (e2 neP (eVo 12) (eC (.int 0)))) (eV 12) [a0, a1, a2, a3, a4, a5, a6, a7, a8, a9, a10, a11, .un, a13] ((List.replicate z (0 : Int)).map PV.int) = .ok []
  | 0 => rfl
  | z + 1 => by
    have ih := zero_lc a0 a1 a2 a3 a4 a5 a6 a7 a8 a9 a10 a11 a13 z
    rw [List.replicate_succ, List.map_cons, lcGo, gN_eq]
    dsimp only [List.set_cons_succ, List.set_cons_zero]
    rw [show tB1 (e2 neP (eVo 12) (eC (.int 0))) [a0, a1, a2, a3, a4, a5, a6, a7, a8, a9, a10, a11, .val (.int 0), a13] = .ok false by simp only [tB1_eq, e2_eq, eC_eq, eVos, eVo0, bind1, neP_ii, asB_eq]; rfl]
    exact ih
/-- the exponents rise -/
theorem exp_rise {z a c : Pt} (h1 : a.1 < c.1) (h2 : z.1 < a.1) (h : Rises z a c) :
    ftop (a.2 - c.2) (c.1 - a.1) * fbot (z.2 - a.2) (a.1 - z.1) < ftop (z.2 - a.2) (a.1 - z.1) * fbot (a.2 - c.2) (c.1 - a.1) := by
  have n1 : c.1 - a.1 ≠ 0 := by omega
  have n2 : a.1 - z.1 ≠ 0 := by omega
  have e1 := fcross (a.2 - c.2) (c.1 - a.1)
  have e2 := fcross (z.2 - a.2) (a.1 - z.1)
  have d1 := fbot_pos (t := a.2 - c.2) n1
  have d2 := fbot_pos (t := z.2 - a.2) n2
  obtain ⟨N1, hN1⟩ : ∃ N, N = ftop (a.2 - c.2) (c.1 - a.1) := ⟨_, rfl⟩
  obtain ⟨D1, hD1⟩ : ∃ N, N = fbot (a.2 - c.2) (c.1 - a.1) := ⟨_, rfl⟩
  obtain ⟨N2, hN2⟩ : ∃ N, N = ftop (z.2 - a.2) (a.1 - z.1) := ⟨_, rfl⟩
  obtain ⟨D2, hD2⟩ : ∃ N, N = fbot (z.2 - a.2) (a.1 - z.1) := ⟨_, rfl⟩
  obtain ⟨w1, hw1⟩ : ∃ w, w = c.1 - a.1 := ⟨_, rfl⟩
  obtain ⟨w2, hw2⟩ : ∃ w, w = a.1 - z.1 := ⟨_, rfl⟩
  rw [← hN1, ← hD1, ← hw1] at e1
  rw [← hN2, ← hD2, ← hw2] at e2
  rw [← hD1] at d1
  rw [← hD2] at d2
  rw [← hN1, ← hN2, ← hD1, ← hD2]
  unfold Rises at h
  have h' : (a.2 - c.2) * w2 < (z.2 - a.2) * w1 := by rw [hw1, hw2]; grind
  have W : 0 < w1 * w2 := Int.mul_pos (by omega) (by omega)
  have D : 0 < D1 * D2 := Int.mul_pos d1 d2
  have m := Int.mul_lt_mul_of_pos_right h' D
  refine Int.lt_of_mul_lt_mul_right (a := w1 * w2) ?_ (by omega)
  have l1 : N1 * D2 * (w1 * w2) = (a.2 - c.2) * w2 * (D1 * D2) := by
    have : N1 * D2 * (w1 * w2) = (N1 * w1) * (D2 * w2) := by grind
    rw [this, e1]; grind
  have l2 : N2 * D1 * (w1 * w2) = (z.2 - a.2) * w1 * (D1 * D2) := by
    have : N2 * D1 * (w1 * w2) = (N2 * w2) * (D1 * w1) := by grind
    rw [this, e2]; grind
  rw [l1, l2]
  exact m
theorem noLs_ints : ∀ ns : List Int, noLs (ns.map PV.int) = true
  | [] => by rw [List.map_nil, noLs]
  | n :: ns => by rw [List.map_cons, noLs, noLs_ints ns]; simp [noL]
theorem noLs_pts : ∀ S : List Pt, noLs (S.map ptV) = true
  | [] => by rw [List.map_nil, noLs]
  | q :: S => by rw [List.map_cons, noLs, noLs_pts S]; simp [noL, ptV, noLs]
theorem kd_ints : ∀ ns : List Int, (ns.map PV.int).map kd = List.replicate ns.length 0
  | [] => rfl
  | n :: ns => by rw [List.map_cons, List.map_cons, kd_ints ns, List.length_cons, List.replicate_succ]; rfl
theorem kd_pcs : ∀ S : List Pt, (pcsV S).map kd = List.replicate (S.length - 1) 4
  | [] => rfl
  | [_] => rfl
  | b :: a :: r => by rw [pcsV, List.map_cons, kd_pcs (a :: r)]; simp [List.replicate_succ]; rfl
theorem keep_ints (S : List Pt) (ns : List Int) (h : ns ≠ []) : dropS (pcsV S) (.val (.lst (ns.map PV.int))) = .val (.lst (ns.map PV.int)) := by
  have k : keepOk (pcsV S) (.lst (ns.map PV.int)) = true := by
    unfold keepOk
    rw [Bool.or_eq_true]
    right
    show (noLs (ns.map PV.int) && apart (pcsV S) (ns.map PV.int)) = true
    rw [noLs_ints, Bool.true_and]
    unfold apart
    rw [kd_ints, kd_pcs]
    cases ns with
    | nil => exact absurd rfl h
    | cons n ns =>
      rw [List.length_cons, List.replicate_succ]
      cases (S.length - 1) with
      | zero => rfl
      | succ m => rw [List.replicate_succ]; rfl
  unfold dropS
  dsimp only
  rw [if_pos k]
theorem keep_pts (S T : List Pt) (h : T.length ≠ S.length - 1) : dropS (pcsV S) (.val (.lst (T.map ptV))) = .val (.lst (T.map ptV)) := by
  have k : keepOk (pcsV S) (.lst (T.map ptV)) = true := by
    unfold keepOk
    rw [Bool.or_eq_true]
    right
    show (noLs (T.map ptV) && apart (pcsV S) (T.map ptV)) = true
    rw [noLs_pts, Bool.true_and]
    unfold apart
    rw [Bool.not_eq_true']
    refine beq_eq_false_iff_ne.mpr fun e => ?_
    have := congrArg List.length e
    rw [List.length_map, List.length_map, List.length_map, pcs_len] at this
    omega
  unfold dropS
  dsimp only
  rw [if_pos k]
theorem law_true : ∀ ns : List Int, ns.length ≤ 63 → (∀ z ∈ ns, z.natAbs.log2 < 1048577) → F_law [.frz (ns.map PV.int)] = .ok (.bl true) := by
  intro ns hns hbits
  refine (runF_eq (n := 14) (u := D_law)).trans ?_
  show (D_law [.val (.frz (ns.map PV.int)), .un, .un, .un, .un, .un, .un, .un, .un, .un, .un, .un, .un, .un]).res = _
  have fc := fun k h => f_cell ns k h
  obtain ⟨p, hp⟩ : ∃ p, p = nth primesL (nth ns 0 % 25) := ⟨_, rfl⟩
  have pm : p ∈ primesL := by rw [hp]; exact prime_in _
  have P := f_prime (nth ns 0)
  rw [← hp] at P
  have hpb := primesL_le p pm
  have m8 := modP_pos (a := nth ns 1) (b := 8) (by omega)
  obtain ⟨cs, C, c2, c9, cb⟩ := nine_cells ns 2 (4 + nth ns 1 % 8) hbits hns
  obtain ⟨as, A, al, az, ab⟩ := f_poly p cs (by omega) (by intro z; rw [z] at c2; simp at c2) (by omega) cb
  have l2 : lstP [.int 3, .int 10] = .ok (.lst [.int 3, .int 10]) := lstP_ok (by simp)
  have hI : PolyI as := ⟨by omega, by omega, az⟩
  obtain ⟨b, s, _, hcv, hsm, hs9, hl1, hl2, _, _, T2, T3⟩ := f_told pm hI (fun a ha => Nat.lt_trans (ab a ha) (Nat.pow_lt_pow_right (by omega) (by omega)))
  have dw := hcv.dwn
  -- the first, the last
  obtain ⟨q, hq⟩ : ∃ q, q = (b :: s).getLast (by simp) := ⟨_, rfl⟩
  rw [← hq] at T3
  have hlq : (b :: s).getLast? = some q := by rw [List.getLast?_eq_some_getLast (by simp), hq]
  obtain ⟨z, x, t, e1, e2', e3⟩ := pts_first p as 0 q (by rw [hl2, hlq])
  rw [Nat.zero_add] at e3
  have bx : b.1 = ((as.length - 1 : Nat) : Int) := by
    obtain ⟨l, w, hlw⟩ : ∃ l w, as = l ++ [w] := ⟨as.dropLast, as.getLast (by intro z; rw [z] at al; simp at al; omega), (List.dropLast_concat_getLast _).symm⟩
    have hw : w ≠ 0 := fun z => az (by rw [hlw, z]; simp)
    rw [hlw, pts_last p l 0 w hw] at hl1
    rw [List.getLast?_concat] at hl1
    cases hl1
    rw [hlw]
    simp
  have ws := wid_sum (b :: s) b q rfl hlq
  obtain ⟨S, hS⟩ : ∃ S, S = b :: s := ⟨_, rfl⟩
  obtain ⟨PL, hPL⟩ : ∃ PL, PL = pcsV S := ⟨_, rfl⟩
  have pl : PL.length = s.length := by rw [hPL, pcs_len, hS]; simp
  obtain ⟨T, hT⟩ : ∃ T, T = S.reverse := ⟨_, rfl⟩
  have Sl : S.length = s.length + 1 := by rw [hS, List.length_cons]
  have Tl : T.length = s.length + 1 := by rw [hT, List.length_reverse, Sl]
  rw [← hS] at T2 T3 hcv hsm dw ws
  rw [← hT] at T2
  rw [← hPL] at T3
  obtain ⟨V, hV⟩ : ∃ V, V = PV.lst (as.map PV.int) := ⟨_, rfl⟩
  obtain ⟨B, hB⟩ : ∃ B, B = PV.lst (T.map ptV) := ⟨_, rfl⟩
  obtain ⟨told, htold⟩ : ∃ told, told = PV.tup [.int q.1, .lst PL] := ⟨_, rfl⟩
  have A' := A
  rw [← hV] at A T2 T3
  rw [← hB] at T2
  rw [← htold] at T3
  have lv : listP [V] = .ok V := by rw [hV]; simp
  have it : isiP "tuple" told = .ok (.bl true) := by rw [isi_tuple, htold]; rfl
  have lt2 : lenP [told] = .ok (.int 2) := by rw [htold]; rfl
  have t0 : ixP told (.int 0) = .ok (.int q.1) := by rw [htold]; rfl
  have t1 : ixP told (.int 1) = .ok (.lst PL) := by rw [htold]; rfl
  have wi : ∀ z : Int, F__law_whole [.int z] = .ok (.bl true) := fun z => by rw [f_whole]; rfl
  have AP := f_are_pieces S dw
  rw [← hPL] at AP
  have l0 : lstP [] = .ok (.lst []) := lstP_ok (by simp)
  have n0 : neP (.lst []) (.lst []) = .ok (.bl false) := neP_self (by simp [okD])
  have sl0 : slP V none (some q.1) = .ok (.lst ((List.replicate z (0 : Int)).map PV.int)) := by
    have tk : (List.replicate z (0 : Int) ++ x :: t).take z = List.replicate z 0 := by
      rw [List.take_append_of_le_length (by simp), List.take_of_length_le (by simp)]
    rw [hV, e3, slP_l, cut_map, cut_take _ _ (by omega), e1, Int.toNat_natCast, tk]
  have ixf : ixP V (.int q.1) = .ok (.int x) := by
    rw [hV, e3]
    exact ixP_lst (by omega) (by rw [e1, Int.toNat_natCast, List.getElem?_map, List.getElem?_append_right (by simp)]; simp)
  have lP : lenP [.lst PL] = .ok (.int s.length) := by rw [lenP_l, pl]
  have lB : lenP [B] = .ok (.int ((s.length : Int) + 1)) := by rw [hB, lenP_l, List.length_map, Tl]; rfl
  have lV : lenP [V] = .ok (.int as.length) := by rw [hV, lenP_l, List.length_map]
  have q0 : decide (q.1 < 0) = false := decide_eq_false (by omega)
  have x0 : (x == 0) = false := by simpa using e2'
  have sz : z < as.length := by rw [e1]; simp
  unfold D_law
  refine stp (.int p) (by simp [fc, P]) ?_
  simp only [List.set_cons_succ, List.set_cons_zero]
  refine stp (.lst (cs.map PV.int)) (by
      simp only [eSl_eq, oNone_eq, oSome_eq, e2_eq, eC_eq, eV0, eVs, eVo0, eVos, eD_eq, aCons_eq, aNil_eq, bind1, addP_ii, fc 1 (by omega), m8, asI_eq, slP_f, l2, show (2 : Int) + 2 = 4 from rfl]
      exact C) ?_
  simp only [List.set_cons_succ, List.set_cons_zero]
  refine stp V (by simp [A]) ?_
  simp only [List.set_cons_succ, List.set_cons_zero]
  refine stp V (by simp only [eD_eq, aCons_eq, aNil_eq, eVos, eVo0, bind1, lv]) ?_
  simp only [List.set_cons_succ, List.set_cons_zero]
  refine stp told (by simp only [eD_eq, aCons_eq, aNil_eq, eV0, eVs, bind1, T3]) ?_
  simp only [List.set_cons_succ, List.set_cons_zero]
  refine skp (by simp only [tOr_eq, tNt_eq, tB1_eq, e1_eq, e2_eq, eD_eq, aCons_eq, aNil_eq, eC_eq, eVos, eVo0, bind1, it, lt2, neP_ii, show (!((2 : Int) == 2)) = false from rfl, t0, t1, wi, AP, asB_eq, Bool.not_true, if_neg Bool.false_ne_true]) ?_
  have C1 := eLc_ok (vs := [12]) (it := iS (eSl slP (eVo 3) oNone (oSome (e2 ixP (eVo 5) (eC (.int 0)))))) (ρ := [.val (.frz (ns.map PV.int)), .val (.int p), .val (.lst (cs.map PV.int)), .val V, .val V, .val told, .un, .un, .un, .un, .un, .un, .un, .un]) (items := (List.replicate z (0 : Int)).map PV.int) rfl (by simp only [iS_eq, eSl_eq, oNone_eq, oSome_eq, e2_eq, eC_eq, eVos, eVo0, bind1, t0, asI_eq, sl0]; rfl) (by simp; omega) (zero_lc _ _ _ _ _ _ _ _ _ _ _ _ _ z)
  refine skp (by simp only [tOr_eq, tB1_eq, e2_eq, eD_eq, aNil_eq, C1, bind1, l0, n0, asB_eq, if_neg Bool.false_ne_true, eC_eq, eVos, eVo0, t0, ltP_ii, q0, ixf, eqP_ii, x0]) ?_
  refine stp B (by simp only [eD_eq, aCons_eq, aNil_eq, eV0, eVs, bind1, T2]) ?_
  simp only [List.set_cons_succ, List.set_cons_zero]
  have C2 := eLc_ok (vs := [13]) (it := iS (e2 ixP (eVo 5) (eC (.int 1)))) (ρ := [.val (.frz (ns.map PV.int)), .val (.int p), .val (.lst (cs.map PV.int)), .val V, .val V, .val told, .val B, .un, .un, .un, .un, .un, .un, .un]) (items := PL) rfl (by simp only [iS_eq, e2_eq, eC_eq, eVos, eVo0, bind1, t1]; rfl) (by omega) (by rw [hPL]; exact wid_lc _ _ _ _ _ _ _ _ _ _ _ _ _ S)
  have sm : sumPL [.lst ((wid S).map PV.int)] = .ok (.int (b.1 - q.1)) := by rw [sumPL_ok, ws]
  have nn1 : (!((s.length : Int) == (s.length : Int) + 1 - 1)) = false := by
    rw [show (s.length : Int) + 1 - 1 = s.length by omega]; simp
  have nn2 : (!(q.1 + (b.1 - q.1) == (as.length : Int) - 1)) = false := by
    rw [show q.1 + (b.1 - q.1) = (as.length : Int) - 1 by omega]; simp
  refine skp (by simp only [tOr_eq, tB1_eq, e2_eq, eD_eq, aCons_eq, aNil_eq, eC_eq, C2, eVos, eVo0, bind1, t0, t1, lP, lB, lV, subP_ii, neP_ii, nn1, asB_eq, if_neg Bool.false_ne_true, sm, addP_ii, nn2]) ?_
  -- piece by piece
  have ixS : ∀ (k : Nat) (c : Pt), S[k]? = some c → ixP B (.int ((s.length : Int) - k)) = .ok (ptV c) := fun k c h => by
    have kl : k < S.length := (List.getElem?_eq_some_iff.mp h).1
    rw [hB, show (s.length : Int) - (k : Int) = ((s.length - k : Nat) : Int) by omega]
    refine ptV_ix ?_
    rw [hT, List.getElem?_reverse (by omega), show S.length - 1 - (s.length - k) = k by omega]
    exact h
  have smS : ∀ (k : Nat) (c : Pt), S[k]? = some c → Sm c := fun k c h => hsm c (List.mem_of_getElem? h)
  have rk : rng1 [.int (s.length : Int)] = .ok (rngL 0 s.length) := by rw [rng1_sm (by omega) (by omega)]; rfl
  obtain ⟨ρ', lp, s7, s8, s9, s10, s11, rfl⟩ := forL_rng (tgt := gN 7) (body := (bSeq (sTo (gT (gsCons (gN 8) (gsCons (gN 9) gsNil))) (e2 ixP (e2 ixP (eVo 5) (eC (.int 1))) (eVo 7))) (bSeq (sSet 10 (e2 ixP (eVo 6) (e2 subP (e2 subP (eD lenP (aCons (eVo 6) aNil)) (eC (.int 1))) (eVo 7)))) (bSeq (sSet 11 (e2 ixP (eVo 6) (e2 subP (e2 subP (eD lenP (aCons (eVo 6) aNil)) (eC (.int 2))) (eVo 7)))) (bSeq (sIf (tOr' (tB1 (e2 neP (eVo 9) (e2 subP (e2 ixP (eVo 10) (eC (.int 0))) (e2 ixP (eVo 11) (eC (.int 0)))))) (tB1 (e2 neP (e2 mulP (e2 ixP (eVo 8) (eC (.int 0))) (eVo 9)) (e2 mulP (e2 subP (e2 ixP (eVo 11) (eC (.int 1))) (e2 ixP (eVo 10) (eC (.int 1)))) (e2 ixP (eVo 8) (eC (.int 1))))))) (bSeq (sRet (eC (.bl false))) bNil) bNil) (bSeq (sIf (tAn (tB1 (e2 gtP (eVo 7) (eC (.int 0)))) (tB1 (e2 geP (e2 mulP (e2 ixP (e2 ixP (e2 ixP (e2 ixP (eVo 5) (eC (.int 1))) (e2 subP (eVo 7) (eC (.int 1)))) (eC (.int 0))) (eC (.int 0))) (e2 ixP (eVo 8) (eC (.int 1)))) (e2 mulP (e2 ixP (eVo 8) (eC (.int 0))) (e2 ixP (e2 ixP (e2 ixP (e2 ixP (eVo 5) (eC (.int 1))) (e2 subP (eVo 7) (eC (.int 1)))) (eC (.int 0))) (eC (.int 1))))))) (bSeq (sRet (eC (.bl false))) bNil) bNil) bNil))))))
    (fun _ ρ => ∃ s7 s8 s9 s10 s11 : Slot, ρ = [.val (.frz (ns.map PV.int)), .val (.int p), .val (.lst (cs.map PV.int)), .val V, .val V, .val told, .val B, s7, s8, s9, s10, s11, .un, .un]) 0 s.length [.val (.frz (ns.map PV.int)), .val (.int p), .val (.lst (cs.map PV.int)), .val V, .val V, .val told, .val B, .un, .un, .un, .un, .un, .un, .un] ⟨.un, .un, .un, .un, .un, rfl⟩ (fun k ρ hk ⟨s7, s8, s9, s10, s11, h⟩ => by
      subst h
      obtain ⟨c, a, h1, h2, h3, h4⟩ := Cv.pair hcv k (by omega)
      have Sc := smS k c h1
      have Sa := smS (k + 1) a h2
      have wn : c.1 - a.1 ≠ 0 := by omega
      obtain ⟨N, hN⟩ : ∃ N, N = ftop (a.2 - c.2) (c.1 - a.1) := ⟨_, rfl⟩
      obtain ⟨D, hD⟩ : ∃ N, N = fbot (a.2 - c.2) (c.1 - a.1) := ⟨_, rfl⟩
      have fcr := fcross (a.2 - c.2) (c.1 - a.1)
      have Nz : N.natAbs < 2 ^ 101 := Nat.lt_of_le_of_lt (by rw [hN]; exact ftop_le wn) (by have := Sc.2; have := Sa.2; omega)
      have Dz : D.natAbs < 2 ^ 101 := Nat.lt_of_le_of_lt (by rw [hD]; exact fbot_le wn) (by have := Sc.1; have := Sa.1; omega)
      rw [← hN, ← hD] at fcr
      have pk : ixP (.lst PL) (.int (k : Int)) = .ok (.tup [fracV N D, .int (c.1 - a.1)]) := by
        refine ixP_lst (by omega) ?_
        rw [hPL, Int.toNat_natCast, pcs_get S k c a h1 h2, hN, hD]; rfl
      have r1 := ixS k c h1
      have r2 := ixS (k + 1) a h2
      have g : ∀ s8 s9 s10 s11, gT (gsCons (gN 8) (gsCons (gN 9) gsNil)) (.tup [fracV N D, .int (c.1 - a.1)]) [.val (.frz (ns.map PV.int)), .val (.int p), .val (.lst (cs.map PV.int)), .val V, .val V, .val told, .val B, .val (.int (k : Int)), s8, s9, s10, s11, .un, .un] = some [.val (.frz (ns.map PV.int)), .val (.int p), .val (.lst (cs.map PV.int)), .val V, .val V, .val told, .val B, .val (.int (k : Int)), .val (fracV N D), .val (.int (c.1 - a.1)), s10, s11, .un, .un] := fun _ _ _ _ => rfl
      have f0 : ixP (fracV N D) (.int 0) = .ok (.int N) := rfl
      have f1 : ixP (fracV N D) (.int 1) = .ok (.int D) := rfl
      have wz : (c.1 - a.1).natAbs < 2 ^ 101 := by have := Sc.1; have := Sa.1; omega
      have vz : (a.2 - c.2).natAbs < 2 ^ 101 := by have := Sc.2; have := Sa.2; omega
      have m1 : mulP (.int N) (.int (c.1 - a.1)) = .ok (.int (N * (c.1 - a.1))) := mulP_ii (okMul_of Nz wz (by omega) (by omega) (by omega))
      have m2 : mulP (.int (a.2 - c.2)) (.int D) = .ok (.int ((a.2 - c.2) * D)) := mulP_ii (okMul_of vz Dz (by omega) (by omega) (by omega))
      have z1 : (!(c.1 - a.1 == c.1 - a.1)) = false := by simp
      have z2 : (!(N * (c.1 - a.1) == (a.2 - c.2) * D)) = false := by rw [fcr]; simp
      have last : tAn (tB1 (e2 gtP (eVo 7) (eC (.int 0)))) (tB1 (e2 geP (e2 mulP (e2 ixP (e2 ixP (e2 ixP (e2 ixP (eVo 5) (eC (.int 1))) (e2 subP (eVo 7) (eC (.int 1)))) (eC (.int 0))) (eC (.int 0))) (e2 ixP (eVo 8) (eC (.int 1)))) (e2 mulP (e2 ixP (eVo 8) (eC (.int 0))) (e2 ixP (e2 ixP (e2 ixP (e2 ixP (eVo 5) (eC (.int 1))) (e2 subP (eVo 7) (eC (.int 1)))) (eC (.int 0))) (eC (.int 1)))))) [.val (.frz (ns.map PV.int)), .val (.int p), .val (.lst (cs.map PV.int)), .val V, .val V, .val told, .val B, .val (.int (k : Int)), .val (fracV N D), .val (.int (c.1 - a.1)), .val (ptV c), .val (ptV a), .un, .un] = .ok false := by
        by_cases k0 : k = 0
        · have g : decide ((k : Int) > 0) = false := decide_eq_false (by omega)
          simp only [tAn_eq, tB1_eq, e2_eq, eC_eq, eVos, eVo0, bind1, gtP_ii, g, asB_eq, if_neg Bool.false_ne_true]
        · have g : decide ((k : Int) > 0) = true := decide_eq_true (by omega)
          obtain ⟨j, hj⟩ : ∃ j, k = j + 1 := ⟨k - 1, by omega⟩
          subst hj
          obtain ⟨d, c', i1, i2, i3, i4⟩ := Cv.pair hcv j (by omega)
          rw [h1] at i2
          cases i2
          have Sd := smS j d i1
          have wn' : d.1 - c.1 ≠ 0 := by omega
          have rise := exp_rise i3 h3 (i4 a h2)
          rw [← hN, ← hD] at rise
          obtain ⟨M, hM⟩ : ∃ N, N = ftop (c.2 - d.2) (d.1 - c.1) := ⟨_, rfl⟩
          obtain ⟨E, hE⟩ : ∃ N, N = fbot (c.2 - d.2) (d.1 - c.1) := ⟨_, rfl⟩
          have Mz : M.natAbs < 2 ^ 101 := Nat.lt_of_le_of_lt (by rw [hM]; exact ftop_le wn') (by have := Sc.2; have := Sd.2; omega)
          have Ez : E.natAbs < 2 ^ 101 := Nat.lt_of_le_of_lt (by rw [hE]; exact fbot_le wn') (by have := Sc.1; have := Sd.1; omega)
          rw [← hM, ← hE] at rise
          have pj : ixP (.lst PL) (.int (((j + 1 : Nat) : Int) - 1)) = .ok (.tup [fracV M E, .int (d.1 - c.1)]) := by
            rw [show ((j + 1 : Nat) : Int) - 1 = (j : Int) by omega]
            refine ixP_lst (by omega) ?_
            rw [hPL, Int.toNat_natCast, pcs_get S j d c i1 h1, hM, hE]; rfl
          have p0 : ixP (.tup [fracV M E, .int (d.1 - c.1)]) (.int 0) = .ok (fracV M E) := rfl
          have g0 : ixP (fracV M E) (.int 0) = .ok (.int M) := rfl
          have g1 : ixP (fracV M E) (.int 1) = .ok (.int E) := rfl
          have m3 : mulP (.int M) (.int D) = .ok (.int (M * D)) := mulP_ii (okMul_of Mz Dz (by omega) (by omega) (by omega))
          have m4 : mulP (.int N) (.int E) = .ok (.int (N * E)) := mulP_ii (okMul_of Nz Ez (by omega) (by omega) (by omega))
          have ge : decide (M * D ≥ N * E) = false := decide_eq_false (by omega)
          simp only [tAn_eq, tB1_eq, e2_eq, eC_eq, eVos, eVo0, bind1, gtP_ii, g, asB_eq, if_true, t1, subP_ii, pj, p0, g0, g1, f0, f1, m3, m4, geP_ii, ge]
      refine ⟨_, .inl ?_, .val (.int (k : Int)), .val (fracV N D), .val (.int (c.1 - a.1)), .val (ptV c), .val (ptV a), rfl⟩
      simp only [turnL, gN_eq, List.set_cons_succ, List.set_cons_zero, show (0 : Int) + (k : Int) = k by omega]
      refine sqN (by simp only [sTo_eq, e2_eq, eC_eq, eVos, eVo0, bind1, t1, pk, st_ok, g]; rfl) ?_
      refine sqS (ptV c) (by simp only [e2_eq, eD_eq, aCons_eq, aNil_eq, eC_eq, eVos, eVo0, bind1, lB, subP_ii, show (s.length : Int) + 1 - 1 - k = (s.length : Int) - k by omega, r1]) ?_
      refine sqS (ptV a) (by simp only [List.set_cons_succ, List.set_cons_zero, e2_eq, eD_eq, aCons_eq, aNil_eq, eC_eq, eVos, eVo0, bind1, lB, subP_ii, show (s.length : Int) + 1 - 2 - k = (s.length : Int) - ((k + 1 : Nat) : Int) by omega, r2]) ?_
      simp only [List.set_cons_succ, List.set_cons_zero]
      refine sqK (by simp only [tOr_eq, tB1_eq, e2_eq, eC_eq, eVos, eVo0, bind1, ptV0, ptV1, subP_ii, neP_ii, z1, f0, f1, m1, m2, z2, asB_eq, if_neg Bool.false_ne_true]) ?_
      exact sqK last rfl)
  refine stpFor (rngL 0 s.length) _ (by simp only [iR_eq, e2_eq, eD_eq, aCons_eq, aNil_eq, eC_eq, eVos, eVo0, bind1, t1, lP, rk]) lp ?_
  -- the list told is emptied
  have kV' : dropS PL (.val V) = .val V := by rw [hPL, hV]; exact keep_ints S as (by intro z; rw [z] at al; simp at al; omega)
  have kB : dropS PL (.val B) = .val B := by rw [hPL, hB]; exact keep_pts S T (by omega)
  have kP : dropS PL (.val (.int p)) = .val (.int p) := by simp [dropS, keepOk, noL]
  obtain ⟨d0, hd0⟩ : ∃ d, d = dropS PL (.val (.frz (ns.map PV.int))) := ⟨_, rfl⟩
  obtain ⟨d2, hd2⟩ : ∃ d, d = dropS PL (.val (.lst (cs.map PV.int))) := ⟨_, rfl⟩
  obtain ⟨d5, hd5⟩ : ∃ d, d = dropS PL (.val told) := ⟨_, rfl⟩
  refine stpN (ρ' := [d0, .val (.int p), d2, .val V, .val V, d5, .val B, dropS PL s7, dropS PL s8, dropS PL s9, dropS PL s10, dropS PL s11, dropS PL .un, dropS PL .un]) (by
    unfold sNest
    simp only [List.getElem?_cons_succ, List.getElem?_cons_zero, htold]
    rw [show clearP PL = .ok [] from rfl]
    dsimp only
    rw [if_pos (show noLs [] = true by simp [noLs])]
    rw [List.map_cons, List.map_cons, List.map_cons, List.map_cons, List.map_cons, List.map_cons, List.map_cons, kP, kV', kB, hd0, hd2, hd5, htold]
    rfl) ?_
  have ee : eqP (.int (s.length : Int)) (.int ((s.length : Int) + 1 - 1)) = .ok (.bl true) := by
    rw [eqP_ii, show (s.length : Int) + 1 - 1 = s.length by omega, beq_self_eq_true]
  have eV' : eqP V V = .ok (.bl true) := eqP_self (by rw [hV]; simp [okD])
  simp only [bSeq_eq, sRet_eq, eAn_eq, e2_eq, eD_eq, aCons_eq, aNil_eq, eC_eq, eV0, eVs, eVos, eVo0, bind1, T3, t1, lP, lB, subP_ii, ee, eV', asB_eq, if_true, st_ok, then_ret, res_ret]
end K72
set_option Elab.async false
set_option linter.all false
set_option maxRecDepth 100000
set_option autoImplicit false
set_option maxHeartbeats 0
namespace K72
open PySem PySem.Spec L2 PL PM
open PyProof.Rows hiding St
def topS (i : Nat) : Stmt := PySem.Challenge.pw_leftnumbers_k72_pieces_of_the_line.main.body.getD i (.Pass ⟨0, 0, 0, 0⟩)
abbrev st_is_whole : Stmt := topS 7
theorem sc_is_whole : FnScope ["thing"] ["thing"] (defScope st_is_whole) := ⟨rfl, rfl, rfl, by decide +kernel, rfl, by decide +kernel, by decide +kernel⟩
abbrev st_is_prime : Stmt := topS 8
theorem sc_is_prime : FnScope ["thing", "part"] ["thing"] (defScope st_is_prime) := ⟨rfl, rfl, rfl, by decide +kernel, rfl, by decide +kernel, by decide +kernel⟩
abbrev st_exponent : Stmt := topS 9
theorem sc_exponent : FnScope ["p", "number", "found", "rest", "left"] ["p", "number"] (defScope st_exponent) := ⟨rfl, rfl, rfl, by decide +kernel, rfl, by decide +kernel, by decide +kernel⟩
abbrev st_divisor : Stmt := topS 11
theorem sc_divisor : FnScope ["one", "other"] ["one", "other"] (defScope st_divisor) := ⟨rfl, rfl, rfl, by decide +kernel, rfl, by decide +kernel, by decide +kernel⟩
abbrev st_fraction : Stmt := topS 12
theorem sc_fraction : FnScope ["top", "bottom", "share"] ["top", "bottom"] (defScope st_fraction) := ⟨rfl, rfl, rfl, by decide +kernel, rfl, by decide +kernel, by decide +kernel⟩
abbrev st_is_poly : Stmt := topS 15
theorem sc_is_poly : FnScope ["thing", "number"] ["thing"] (defScope st_is_poly) := ⟨rfl, rfl, rfl, by decide +kernel, rfl, by decide +kernel, by decide +kernel⟩
abbrev st_points_of : Stmt := topS 17
theorem sc_points_of : FnScope ["p", "poly", "at", "number"] ["p", "poly"] (defScope st_points_of) := ⟨rfl, rfl, rfl, by decide +kernel, rfl, by decide +kernel, by decide +kernel⟩
abbrev st_is_needless : Stmt := topS 18
theorem sc_is_needless : FnScope ["first", "middle", "last"] ["first", "middle", "last"] (defScope st_is_needless) := ⟨rfl, rfl, rfl, by decide +kernel, rfl, by decide +kernel, by decide +kernel⟩
abbrev st_corners_of : Stmt := topS 19
theorem sc_corners_of : FnScope ["p", "poly", "bends", "point"] ["p", "poly"] (defScope st_corners_of) := ⟨rfl, rfl, rfl, by decide +kernel, rfl, by decide +kernel, by decide +kernel⟩
abbrev st_sizes_of : Stmt := topS 21
theorem sc_sizes_of : FnScope ["p", "poly", "bends", "pieces", "at", "left", "high", "right", "low"] ["p", "poly"] (defScope st_sizes_of) := ⟨rfl, rfl, rfl, by decide +kernel, rfl, by decide +kernel, by decide +kernel⟩
abbrev st__law_cell_at : Stmt := topS 23
theorem sc__law_cell_at : FnScope ["_law_script", "_law_k"] ["_law_script", "_law_k"] (defScope st__law_cell_at) := ⟨rfl, rfl, rfl, by decide +kernel, rfl, by decide +kernel, by decide +kernel⟩
abbrev st__law_prime : Stmt := topS 24
theorem sc__law_prime : FnScope ["_law_cell", "_law_some"] ["_law_cell"] (defScope st__law_prime) := ⟨rfl, rfl, rfl, by decide +kernel, rfl, by decide +kernel, by decide +kernel⟩
abbrev st__law_poly : Stmt := topS 25
theorem sc__law_poly : FnScope ["_law_cells", "_law_p", "_law_poly_here", "_law_k", "_law_number", "_law_turn"] ["_law_cells", "_law_p"] (defScope st__law_poly) := ⟨rfl, rfl, rfl, by decide +kernel, rfl, by decide +kernel, by decide +kernel⟩
abbrev st__law_whole : Stmt := topS 26
theorem sc__law_whole : FnScope ["_law_got"] ["_law_got"] (defScope st__law_whole) := ⟨rfl, rfl, rfl, by decide +kernel, rfl, by decide +kernel, by decide +kernel⟩
abbrev st__law_share : Stmt := topS 27
theorem sc__law_share : FnScope ["_law_one", "_law_other"] ["_law_one", "_law_other"] (defScope st__law_share) := ⟨rfl, rfl, rfl, by decide +kernel, rfl, by decide +kernel, by decide +kernel⟩
abbrev st__law_is_fraction : Stmt := topS 28
theorem sc__law_is_fraction : FnScope ["_law_got"] ["_law_got"] (defScope st__law_is_fraction) := ⟨rfl, rfl, rfl, by decide +kernel, rfl, by decide +kernel, by decide +kernel⟩
abbrev st__law_are_pieces : Stmt := topS 29
theorem sc__law_are_pieces : FnScope ["_law_got", "_law_piece"] ["_law_got"] (defScope st__law_are_pieces) := ⟨rfl, rfl, rfl, by decide +kernel, rfl, by decide +kernel, by decide +kernel⟩
abbrev st_law : Stmt := topS 30
theorem sc_law : FnScope ["_law_script", "_law_p", "_law_cells", "_law_poly_here", "_law_handed", "_law_told", "_law_bends", "_law_k", "_law_part", "_law_many", "_law_right", "_law_left", "_law_number", "_law_piece"] ["_law_script"] (defScope st_law) := ⟨rfl, rfl, rfl, by decide +kernel, rfl, by decide +kernel, by decide +kernel⟩
structure Tx (K : PySem.W.Frag) (mg : Str → Option Value) : Prop where
  d_is_whole : DefE K mg "is_whole" st_is_whole ["thing"]
  d_is_prime : DefE K mg "is_prime" st_is_prime ["thing"]
  d_exponent : DefE K mg "exponent" st_exponent ["p", "number"]
  d_divisor : DefE K mg "divisor" st_divisor ["one", "other"]
  d_fraction : DefED K mg "fraction" st_fraction ["top", "bottom"]
  d_is_poly : DefE K mg "is_poly" st_is_poly ["thing"]
  d_points_of : DefE K mg "points_of" st_points_of ["p", "poly"]
  d_is_needless : DefE K mg "is_needless" st_is_needless ["first", "middle", "last"]
  d_corners_of : DefE K mg "corners_of" st_corners_of ["p", "poly"]
  d_sizes_of : DefE K mg "sizes_of" st_sizes_of ["p", "poly"]
  d__law_cell_at : DefE K mg "_law_cell_at" st__law_cell_at ["_law_script", "_law_k"]
  d__law_prime : DefE K mg "_law_prime" st__law_prime ["_law_cell"]
  d__law_poly : DefE K mg "_law_poly" st__law_poly ["_law_cells", "_law_p"]
  d__law_whole : DefE K mg "_law_whole" st__law_whole ["_law_got"]
  d__law_share : DefE K mg "_law_share" st__law_share ["_law_one", "_law_other"]
  d__law_is_fraction : DefE K mg "_law_is_fraction" st__law_is_fraction ["_law_got"]
  d__law_are_pieces : DefE K mg "_law_are_pieces" st__law_are_pieces ["_law_got"]
  n_abs : mg "abs" = none
  n_all : mg "all" = none
  n_bool : mg "bool" = none
  n_divmod : mg "divmod" = none
  n_enumerate : mg "enumerate" = none
  n_int : mg "int" = none
  n_isinstance : mg "isinstance" = none
  n_len : mg "len" = none
  n_list : mg "list" = none
  n_range : mg "range" = none
  n_sum : mg "sum" = none
  n_tuple : mg "tuple" = none
  c_MOST_NUMBERS : GlI mg "MOST_NUMBERS" 9
  c_MOST_PRIME : GlI mg "MOST_PRIME" 97
  x_NoFraction : ∃ C, ExcT K mg "NoFraction" C
  x_NoPolynomial : ∃ C, ExcT K mg "NoPolynomial" C
  x_NoPrime : ∃ C, ExcT K mg "NoPrime" C
section
variable {P : Program} {w : World} {K : PySem.W.Frag} {mg : Str → Option Value} {base : Heap}
theorem bd_is_whole (B : Tx K mg) {f : Addr} {cdv : Value} {A : Around} {outer : List PySem.Env} {s : Shared} {H : Hp} {E : XK} (hr : Room 0 (A.deeper (envOfC "is_whole" (defScope st_is_whole) s.heap.objs.size f cdv))) :
    BJ (cxOf (L2N.CX P w) P w K mg base ["thing"] "is_whole" (defScope st_is_whole) f cdv A outer s H E) (fun cls d _ H => E cls d H) false (defBody st_is_whole) D_is_whole :=
  (b_cons (s_ret (e_and (e_isi (n := "int") B.n_isinstance (by rfl) (e_varT (pv 0)) (pe_bltn (by rfl) B.n_int (by decide +kernel) rfl)) (e_one (e_not (e_isi (n := "bool") B.n_isinstance (by rfl) (e_varT (pv 0)) (pe_bltn (by rfl) B.n_bool (by decide +kernel) rfl))))))
b_nil)
theorem ok_is_whole (B : Tx K mg) : Okd P w K mg base "is_whole" ["thing"] 1 1 false F_is_whole := def_ok B.d_is_whole sc_is_whole rfl (fun z => nomatch z) fun f cdv A outer s H E hr => bd_is_whole B hr
theorem bd_is_prime (B : Tx K mg) {f : Addr} {cdv : Value} {A : Around} {outer : List PySem.Env} {s : Shared} {H : Hp} {E : XK} (hr : Room 1 (A.deeper (envOfC "is_prime" (defScope st_is_prime) s.heap.objs.size f cdv))) :
    BJ (cxOf (L2N.CX P w) P w K mg base ["thing", "part"] "is_prime" (defScope st_is_prime) f cdv A outer s H E) (fun cls d _ H => E cls d H) false (defBody st_is_prime) D_is_prime :=
  (b_cons (s_if (t_w (w_or (t_not (t_val (e_callD (ok_is_whole B) hr (by decide) tk_of (by rfl) (a_cons (e_var (pv 0)) a_nil) (ALen.cons ALen.nil)))) (w_or (t_lt (e_varT (pv 0)) (e_s_t e_int)) (w_or1 (t_gt (e_varT (pv 0)) (e_s_t (e_glI B.c_MOST_PRIME (by rfl))))))))
(b_cons (s_ret e_bl)
b_nil)
b_nil)
(b_cons (s_ret (e_all rfl B.n_all (by rfl) (a_cons (e_f_t (e_lc (own := [("part", 1)]) rfl sc_is_prime.nd (i_rng2 B.n_range (by rfl) (a_cons (e_s_t e_int) (a_cons (e_varT (pv 0)) a_nil))) (blkOk_by (own := [("part", 1)]) (N := ["thing", "part"]) (sc := defScope st_is_prime) (by decide +kernel)) (by decide) (fun _ _ _ _ _ => (g_name (pg_name (i := 1) sc_is_prime.nd rfl (Or.inl rfl)))) (fun _ _ _ _ _ => c_nil) (fun _ _ _ _ _ => (e_ne hr.units (e_s_t (e_mod (e_varT (pv 0)) (e_varT (pv 1)))) (e_s_t e_int))))) a_nil)))
b_nil))
theorem ok_is_prime (B : Tx K mg) : Okd P w K mg base "is_prime" ["thing"] 2 1 false F_is_prime := def_ok B.d_is_prime sc_is_prime rfl (fun z => nomatch z) fun f cdv A outer s H E hr => bd_is_prime B hr
theorem bd_exponent (B : Tx K mg) {f : Addr} {cdv : Value} {A : Around} {outer : List PySem.Env} {s : Shared} {H : Hp} {E : XK} (hr : Room 0 (A.deeper (envOfC "exponent" (defScope st_exponent) s.heap.objs.size f cdv))) :
    BJ (cxOf (L2N.CX P w) P w K mg base ["p", "number", "found", "rest", "left"] "exponent" (defScope st_exponent) f cdv A outer s H E) (fun cls d _ H => E cls d H) false (defBody st_exponent) D_exponent :=
  (b_cons (s_set (i := 2) sc_exponent.nd rfl (Or.inl rfl) e_int)
(b_cons (s_to (e_divmod B.n_divmod (by rfl) (a_cons (e_varT (pv 1)) (a_cons (e_varT (pv 0)) a_nil))) (g_tup rfl (gs_cons (g_name (pg_name (i := 3) sc_exponent.nd rfl (Or.inl rfl))) (gs_cons (g_name (pg_name (i := 4) sc_exponent.nd rfl (Or.inl rfl))) gs_nil)) (gs_len (gs_len gs_len0))))
(b_cons (s_while hp_of (t_eq hr.units (e_varT (pv 4)) (e_s_t e_int))
(b_cons (s_augAdd (i := 2) sc_exponent.nd rfl (Or.inl rfl) (e_s_t e_int))
(b_cons (s_to (e_divmod B.n_divmod (by rfl) (a_cons (e_varT (pv 3)) (a_cons (e_varT (pv 0)) a_nil))) (g_tup rfl (gs_cons (g_name (pg_name (i := 3) sc_exponent.nd rfl (Or.inl rfl))) (gs_cons (g_name (pg_name (i := 4) sc_exponent.nd rfl (Or.inl rfl))) gs_nil)) (gs_len (gs_len gs_len0))))
b_nil)))
(b_cons (s_ret (e_var (pv 2)))
b_nil))))
theorem ok_exponent (B : Tx K mg) : Okd P w K mg base "exponent" ["p", "number"] 1 2 false F_exponent := def_ok B.d_exponent sc_exponent rfl (fun z => nomatch z) fun f cdv A outer s H E hr => bd_exponent B hr
theorem bd_divisor (B : Tx K mg) {f : Addr} {cdv : Value} {A : Around} {outer : List PySem.Env} {s : Shared} {H : Hp} {E : XK} (hr : Room 0 (A.deeper (envOfC "divisor" (defScope st_divisor) s.heap.objs.size f cdv))) :
    BJ (cxOf (L2N.CX P w) P w K mg base ["one", "other"] "divisor" (defScope st_divisor) f cdv A outer s H E) (fun cls d _ H => E cls d H) false (defBody st_divisor) D_divisor :=
  (b_cons (s_set (i := 0) sc_divisor.nd rfl (Or.inl rfl) (e_abs B.n_abs (by rfl) (a_cons (e_varT (pv 0)) a_nil)))
(b_cons (s_set (i := 1) sc_divisor.nd rfl (Or.inl rfl) (e_abs B.n_abs (by rfl) (a_cons (e_varT (pv 1)) a_nil)))
(b_cons (s_while hp_of (t_gt (e_varT (pv 1)) (e_s_t e_int))
(b_cons (s_par (i := 0) (j := 1) rfl sc_divisor.nd rfl rfl (by decide) rfl rfl (a_cons (e_var (pv 1)) (a_cons (e_mod (e_varT (pv 0)) (e_varT (pv 1))) a_nil)) (by rfl))
b_nil))
(b_cons (s_ret (e_var (pv 0)))
b_nil))))
theorem ok_divisor (B : Tx K mg) : Okd P w K mg base "divisor" ["one", "other"] 1 2 false F_divisor := def_ok B.d_divisor sc_divisor rfl (fun z => nomatch z) fun f cdv A outer s H E hr => bd_divisor B hr
theorem bd_fraction (B : Tx K mg) {f : Addr} {cdv : Value} {A : Around} {outer : List PySem.Env} {s : Shared} {H : Hp} {E : XK} (hr : Room 1 (A.deeper (envOfC "fraction" (defScope st_fraction) s.heap.objs.size f cdv))) :
    BJ (cxOf (L2N.CX P w) P w K mg base ["top", "bottom", "share"] "fraction" (defScope st_fraction) f cdv A outer s H E) (fun cls d _ H => E cls d H) false (defBody st_fraction) D_fraction :=
  (b_cons (s_if (t_w (w_or (t_not (t_val (e_callD (ok_is_whole B) hr (by decide) tk_of (by rfl) (a_cons (e_var (pv 0)) a_nil) (ALen.cons ALen.nil)))) (w_or (t_not (t_val (e_callD (ok_is_whole B) hr (by decide) tk_of (by rfl) (a_cons (e_var (pv 1)) a_nil) (ALen.cons ALen.nil)))) (w_or1 (t_eq hr.units (e_varT (pv 1)) (e_s_t e_int))))))
(b_cons (s_raise B.x_NoFraction.choose_spec rfl tk_of (by rfl))
b_nil)
b_nil)
(b_cons (s_set (i := 2) sc_fraction.nd rfl (Or.inl rfl) (e_callD (ok_divisor B) hr (by decide) tk_of (by rfl) (a_cons (e_var (pv 0)) (a_cons (e_var (pv 1)) a_nil)) (ALen.cons (ALen.cons ALen.nil))))
(b_cons (s_if (t_lt (e_varT (pv 1)) (e_s_t e_int))
(b_cons (s_set (i := 2) sc_fraction.nd rfl (Or.inl rfl) (e_neg (e_varT (pv 2))))
b_nil)
b_nil)
(b_cons (s_ret (e_tup (a_cons (e_fdiv (e_varT (pv 0)) (e_varT (pv 2))) (a_cons (e_fdiv (e_varT (pv 1)) (e_varT (pv 2))) a_nil))))
b_nil))))
theorem ok_fraction (B : Tx K mg) : Okd P w K mg base "fraction" ["top", "bottom"] 2 2 false F_fraction ∧ OkD1 P w K mg base "fraction" ["top", "bottom"] 2 2 false F_fraction := def_okD B.d_fraction sc_fraction rfl (fun z => nomatch z) fun f cdv A outer s H E hr => bd_fraction B hr
theorem bd_is_poly (B : Tx K mg) {f : Addr} {cdv : Value} {A : Around} {outer : List PySem.Env} {s : Shared} {H : Hp} {E : XK} (hr : Room 1 (A.deeper (envOfC "is_poly" (defScope st_is_poly) s.heap.objs.size f cdv))) :
    BJ (cxOf (L2N.CX P w) P w K mg base ["thing", "number"] "is_poly" (defScope st_is_poly) f cdv A outer s H E) (fun cls d _ H => E cls d H) false (defBody st_is_poly) D_is_poly :=
  (b_cons (s_if (t_w (w_or (t_not (t_val (e_isi (n := "list") B.n_isinstance (by rfl) (e_varT (pv 0)) (pe_bltn (by rfl) B.n_list (by decide +kernel) rfl)))) (w_or (t_lt (e_s_t (e_len B.n_len (by rfl) (a_cons (e_varT (pv 0)) a_nil))) (e_s_t e_int)) (w_or1 (t_gt (e_s_t (e_len B.n_len (by rfl) (a_cons (e_varT (pv 0)) a_nil))) (e_s_t (e_glI B.c_MOST_NUMBERS (by rfl))))))))
(b_cons (s_ret e_bl)
b_nil)
b_nil)
(b_cons (s_ret (e_and (e_all rfl B.n_all (by rfl) (a_cons (e_f_t (e_lc (own := [("number", 1)]) rfl sc_is_poly.nd (i_seq (e_var (pv 0))) (blkOk_by (own := [("number", 1)]) (N := ["thing", "number"]) (sc := defScope st_is_poly) (by decide +kernel)) (by decide) (fun _ _ _ _ _ => (g_name (pg_name (i := 1) sc_is_poly.nd rfl (Or.inl rfl)))) (fun _ _ _ _ _ => c_nil) (fun _ _ _ _ _ => (e_callD (ok_is_whole B) hr (by decide) takesN (by rfl) (a_cons (e_var (pv 1)) a_nil) (ALen.cons ALen.nil))))) a_nil)) (e_one (e_ne hr.units (e_s_t (e_item (e_varT (pv 0)) (e_s_t (e_neg (e_s_t e_int))) (fun _ _ => rfl))) (e_s_t e_int)))))
b_nil))
theorem ok_is_poly (B : Tx K mg) : Okd P w K mg base "is_poly" ["thing"] 2 1 false F_is_poly := def_ok B.d_is_poly sc_is_poly rfl (fun z => nomatch z) fun f cdv A outer s H E hr => bd_is_poly B hr
theorem bd_points_of (B : Tx K mg) {f : Addr} {cdv : Value} {A : Around} {outer : List PySem.Env} {s : Shared} {H : Hp} {E : XK} (hr : Room 2 (A.deeper (envOfC "points_of" (defScope st_points_of) s.heap.objs.size f cdv))) :
    BJ (cxOf (L2N.CX P w) P w K mg base ["p", "poly", "at", "number"] "points_of" (defScope st_points_of) f cdv A outer s H E) (fun cls d _ H => E cls d H) true (defBody st_points_of) D_points_of :=
  (b_cons (s_if (t_not (t_val (e_callD (ok_is_prime B) hr (by decide) tk_of (by rfl) (a_cons (e_var (pv 0)) a_nil) (ALen.cons ALen.nil))))
(b_cons (s_raise B.x_NoPrime.choose_spec rfl tk_of (by rfl))
b_nil)
b_nil)
(b_cons (s_if (t_not (t_val (e_callD (ok_is_poly B) hr (by decide) tk_of (by rfl) (a_cons (e_var (pv 1)) a_nil) (ALen.cons ALen.nil))))
(b_cons (s_raise B.x_NoPolynomial.choose_spec rfl tk_of (by rfl))
b_nil)
b_nil)
(b_cons (s_retF (e_lc (own := [("at", 2), ("number", 3)]) rfl sc_points_of.nd (i_enum B.n_enumerate (by rfl) (e_var (pv 1))) (blkOk_by (own := [("at", 2), ("number", 3)]) (N := ["p", "poly", "at", "number"]) (sc := defScope st_points_of) (by decide +kernel)) (by decide) (fun _ _ _ _ _ => (g_tup rfl (gs_cons (g_name (pg_name (i := 2) sc_points_of.nd rfl (Or.inl rfl))) (gs_cons (g_name (pg_name (i := 3) sc_points_of.nd rfl (Or.inl rfl))) gs_nil)) (gs_len (gs_len gs_len0)))) (fun _ _ _ _ _ => (c_one (t_ne hr.units (e_varT (pv 3)) (e_s_t e_int)))) (fun _ _ _ _ _ => (e_tup (a_cons (e_var (pv 2)) (a_cons (e_callD (ok_exponent B) hr (by decide) takesN (by rfl) (a_cons (e_var (pv 0)) (a_cons (e_var (pv 3)) a_nil)) (ALen.cons (ALen.cons ALen.nil))) a_nil))))))
b_nil)))
theorem ok_points_of (B : Tx K mg) : Okd P w K mg base "points_of" ["p", "poly"] 3 2 true F_points_of := def_ok B.d_points_of sc_points_of rfl (fun _ => (nn_seqR (nn_seqR (nn_seqL (nn_ret _))))) fun f cdv A outer s H E hr => bd_points_of B hr
theorem bd_is_needless (B : Tx K mg) {f : Addr} {cdv : Value} {A : Around} {outer : List PySem.Env} {s : Shared} {H : Hp} {E : XK} (hr : Room 0 (A.deeper (envOfC "is_needless" (defScope st_is_needless) s.heap.objs.size f cdv))) :
    BJ (cxOf (L2N.CX P w) P w K mg base ["first", "middle", "last"] "is_needless" (defScope st_is_needless) f cdv A outer s H E) (fun cls d _ H => E cls d H) false (defBody st_is_needless) D_is_needless :=
  (b_cons (s_ret (e_ge (e_s_t (e_mul (e_s_t (e_sub (e_s_t (e_item (e_varT (pv 1)) (e_s_t e_int) (fun _ _ => rfl))) (e_s_t (e_item (e_varT (pv 0)) (e_s_t e_int) (fun _ _ => rfl))))) (e_s_t (e_sub (e_s_t (e_item (e_varT (pv 2)) (e_s_t e_int) (fun _ _ => rfl))) (e_s_t (e_item (e_varT (pv 0)) (e_s_t e_int) (fun _ _ => rfl))))))) (e_s_t (e_mul (e_s_t (e_sub (e_s_t (e_item (e_varT (pv 2)) (e_s_t e_int) (fun _ _ => rfl))) (e_s_t (e_item (e_varT (pv 0)) (e_s_t e_int) (fun _ _ => rfl))))) (e_s_t (e_sub (e_s_t (e_item (e_varT (pv 1)) (e_s_t e_int) (fun _ _ => rfl))) (e_s_t (e_item (e_varT (pv 0)) (e_s_t e_int) (fun _ _ => rfl)))))))))
b_nil)
theorem ok_is_needless (B : Tx K mg) : Okd P w K mg base "is_needless" ["first", "middle", "last"] 1 3 false F_is_needless := def_ok B.d_is_needless sc_is_needless rfl (fun z => nomatch z) fun f cdv A outer s H E hr => bd_is_needless B hr
theorem bd_corners_of (B : Tx K mg) {f : Addr} {cdv : Value} {A : Around} {outer : List PySem.Env} {s : Shared} {H : Hp} {E : XK} (hr : Room 3 (A.deeper (envOfC "corners_of" (defScope st_corners_of) s.heap.objs.size f cdv))) :
    BJ (cxOf (L2N.CX P w) P w K mg base ["p", "poly", "bends", "point"] "corners_of" (defScope st_corners_of) f cdv A outer s H E) (fun cls d _ H => E cls d H) true (defBody st_corners_of) D_corners_of :=
  (b_cons (s_setO (i := 2) sc_corners_of.nd rfl (Or.inl rfl) (e_lst a_nil))
(b_cons (s_for hp_of rfl (i_seq (e_f_s (e_callD (ok_points_of B) hr (by decide) tk_of (by rfl) (a_cons (e_var (pv 0)) (a_cons (e_var (pv 1)) a_nil)) (ALen.cons (ALen.cons ALen.nil))))) (g_name (pg_name (i := 3) sc_corners_of.nd rfl (Or.inl rfl)))
(b_cons (s_while hp_of (t_w (w_and (t_gt (e_s_t (e_len B.n_len (by rfl) (a_cons (e_varT (pv 2)) a_nil))) (e_s_t e_int)) (w_and1 (t_val (e_callD (ok_is_needless B) hr (by decide) tk_of (by rfl) (a_cons (e_item (e_varT (pv 2)) (e_s_t (e_neg (e_s_t e_int))) (fun _ _ => rfl)) (a_cons (e_item (e_varT (pv 2)) (e_s_t (e_neg (e_s_t e_int))) (fun _ _ => rfl)) (a_cons (e_var (pv 3)) a_nil))) (ALen.cons (ALen.cons (ALen.cons ALen.nil))))))))
(b_cons (s_pop (i := 2) (pv 2))
b_nil))
(b_cons (s_app (i := 2) (pv 2) (e_var (pv 3)))
b_nil)))
(b_cons (s_retO (i := 2) (pv 2))
b_nil)))
theorem ok_corners_of (B : Tx K mg) : Okd P w K mg base "corners_of" ["p", "poly"] 4 2 true F_corners_of := def_ok B.d_corners_of sc_corners_of rfl (fun _ => (nn_seqR (nn_seqR (nn_seqL (nn_retO _))))) fun f cdv A outer s H E hr => bd_corners_of B hr
theorem bd_sizes_of (B : Tx K mg) {f : Addr} {cdv : Value} {A : Around} {outer : List PySem.Env} {s : Shared} {H : Hp} {E : XK} (hr : Room 4 (A.deeper (envOfC "sizes_of" (defScope st_sizes_of) s.heap.objs.size f cdv))) :
    BJ (cxOf (L2N.CX P w) P w K mg base ["p", "poly", "bends", "pieces", "at", "left", "high", "right", "low"] "sizes_of" (defScope st_sizes_of) f cdv A outer s H E) (fun cls d _ H => E cls d H) false (defBody st_sizes_of) D_sizes_of :=
  (b_cons (s_set (i := 2) sc_sizes_of.nd rfl (Or.inl rfl) (e_f_s (e_callD (ok_corners_of B) hr (by decide) tk_of (by rfl) (a_cons (e_var (pv 0)) (a_cons (e_var (pv 1)) a_nil)) (ALen.cons (ALen.cons ALen.nil)))))
(b_cons (s_setO (i := 3) sc_sizes_of.nd rfl (Or.inl rfl) (e_lst a_nil))
(b_cons (s_for hp_of rfl (i_rng3 B.n_range (by rfl) (a_cons (e_s_t (e_sub (e_s_t (e_len B.n_len (by rfl) (a_cons (e_varT (pv 2)) a_nil))) (e_s_t e_int))) (a_cons (e_s_t e_int) (a_cons (e_s_t (e_neg (e_s_t e_int))) a_nil)))) (g_name (pg_name (i := 4) sc_sizes_of.nd rfl (Or.inl rfl)))
(b_cons (s_to (e_item (e_varT (pv 2)) (e_s_t (e_sub (e_varT (pv 4)) (e_s_t e_int))) (fun _ _ => rfl)) (g_tup rfl (gs_cons (g_name (pg_name (i := 5) sc_sizes_of.nd rfl (Or.inl rfl))) (gs_cons (g_name (pg_name (i := 6) sc_sizes_of.nd rfl (Or.inl rfl))) gs_nil)) (gs_len (gs_len gs_len0))))
(b_cons (s_to (e_item (e_varT (pv 2)) (e_varT (pv 4)) (fun _ _ => rfl)) (g_tup rfl (gs_cons (g_name (pg_name (i := 7) sc_sizes_of.nd rfl (Or.inl rfl))) (gs_cons (g_name (pg_name (i := 8) sc_sizes_of.nd rfl (Or.inl rfl))) gs_nil)) (gs_len (gs_len gs_len0))))
(b_cons (s_app (i := 3) (pv 3) (e_tup (a_cons (e_callD (ok_fraction B).1 hr (by decide) tk_of (by rfl) (a_cons (e_sub (e_varT (pv 6)) (e_varT (pv 8))) (a_cons (e_sub (e_varT (pv 7)) (e_varT (pv 5))) a_nil)) (ALen.cons (ALen.cons ALen.nil))) (a_cons (e_sub (e_varT (pv 7)) (e_varT (pv 5))) a_nil))))
b_nil))))
(s_frz (i := 3) (b_cons (s_ret (e_tup (a_cons (e_item (e_s_t (e_item (e_varT (pv 2)) (e_s_t e_int) (fun _ _ => rfl))) (e_s_t e_int) (fun _ _ => rfl)) (a_cons (e_var (pv 3)) a_nil))))
b_nil)))))
theorem ok_sizes_of (B : Tx K mg) : Okd P w K mg base "sizes_of" ["p", "poly"] 5 2 false F_sizes_of := def_ok B.d_sizes_of sc_sizes_of rfl (fun z => nomatch z) fun f cdv A outer s H E hr => bd_sizes_of B hr
theorem bd__law_cell_at (B : Tx K mg) {f : Addr} {cdv : Value} {A : Around} {outer : List PySem.Env} {s : Shared} {H : Hp} {E : XK} (hr : Room 0 (A.deeper (envOfC "_law_cell_at" (defScope st__law_cell_at) s.heap.objs.size f cdv))) :
    BJ (cxOf (L2N.CX P w) P w K mg base ["_law_script", "_law_k"] "_law_cell_at" (defScope st__law_cell_at) f cdv A outer s H E) (fun cls d _ H => E cls d H) false (defBody st__law_cell_at) D__law_cell_at :=
  (b_cons (s_if (t_lt (e_varT (pv 1)) (e_s_t (e_len B.n_len (by rfl) (a_cons (e_varT (pv 0)) a_nil))))
(b_cons (s_ret (e_item (e_varT (pv 0)) (e_varT (pv 1)) (fun _ _ => rfl)))
b_nil)
b_nil)
(b_cons (s_ret e_int)
b_nil))
theorem ok__law_cell_at (B : Tx K mg) : Okd P w K mg base "_law_cell_at" ["_law_script", "_law_k"] 1 2 false F__law_cell_at := def_ok B.d__law_cell_at sc__law_cell_at rfl (fun z => nomatch z) fun f cdv A outer s H E hr => bd__law_cell_at B hr
theorem bd__law_prime (B : Tx K mg) {f : Addr} {cdv : Value} {A : Around} {outer : List PySem.Env} {s : Shared} {H : Hp} {E : XK} (hr : Room 0 (A.deeper (envOfC "_law_prime" (defScope st__law_prime) s.heap.objs.size f cdv))) :
    BJ (cxOf (L2N.CX P w) P w K mg base ["_law_cell", "_law_some"] "_law_prime" (defScope st__law_prime) f cdv A outer s H E) (fun cls d _ H => E cls d H) false (defBody st__law_prime) D__law_prime :=
  (b_cons (s_set (i := 1) sc__law_prime.nd rfl (Or.inl rfl) (e_f_s (e_lst (a_cons e_int (a_cons e_int (a_cons e_int (a_cons e_int (a_cons e_int (a_cons e_int (a_cons e_int (a_cons e_int (a_cons e_int (a_cons e_int (a_cons e_int (a_cons e_int (a_cons e_int (a_cons e_int (a_cons e_int (a_cons e_int (a_cons e_int (a_cons e_int (a_cons e_int (a_cons e_int (a_cons e_int (a_cons e_int (a_cons e_int (a_cons e_int (a_cons e_int a_nil))))))))))))))))))))))))))))
(b_cons (s_ret (e_item (e_varT (pv 1)) (e_s_t (e_mod (e_varT (pv 0)) (e_s_t e_int))) (fun _ _ => rfl)))
b_nil))
theorem ok__law_prime (B : Tx K mg) : Okd P w K mg base "_law_prime" ["_law_cell"] 1 1 false F__law_prime := def_ok B.d__law_prime sc__law_prime rfl (fun z => nomatch z) fun f cdv A outer s H E hr => bd__law_prime B hr
theorem bd__law_poly (B : Tx K mg) {f : Addr} {cdv : Value} {A : Around} {outer : List PySem.Env} {s : Shared} {H : Hp} {E : XK} (hr : Room 0 (A.deeper (envOfC "_law_poly" (defScope st__law_poly) s.heap.objs.size f cdv))) :
    BJ (cxOf (L2N.CX P w) P w K mg base ["_law_cells", "_law_p", "_law_poly_here", "_law_k", "_law_number", "_law_turn"] "_law_poly" (defScope st__law_poly) f cdv A outer s H E) (fun cls d _ H => E cls d H) true (defBody st__law_poly) D__law_poly :=
  (b_cons (s_setO (i := 2) sc__law_poly.nd rfl (Or.inl rfl) (e_lst a_nil))
(b_cons (s_for hp_of rfl (i_rng1 B.n_range (by rfl) (a_cons (e_s_t (e_len B.n_len (by rfl) (a_cons (e_varT (pv 0)) a_nil))) a_nil)) (g_name (pg_name (i := 3) sc__law_poly.nd rfl (Or.inl rfl)))
(b_cons (s_set (i := 4) sc__law_poly.nd rfl (Or.inl rfl) (e_sub (e_s_t (e_mod (e_s_t (e_fdiv (e_s_t (e_item (e_varT (pv 0)) (e_varT (pv 3)) (fun _ _ => rfl))) (e_s_t e_int))) (e_s_t e_int))) (e_s_t e_int)))
(b_cons (s_if (t_eq hr.units (e_s_t (e_mod (e_s_t (e_item (e_varT (pv 0)) (e_varT (pv 3)) (fun _ _ => rfl))) (e_s_t e_int))) (e_s_t e_int))
(b_cons (s_set (i := 4) sc__law_poly.nd rfl (Or.inl rfl) (e_sub (e_s_t (e_mod (e_s_t (e_mul (e_s_t (e_fdiv (e_s_t (e_item (e_varT (pv 0)) (e_varT (pv 3)) (fun _ _ => rfl))) (e_s_t e_int))) (e_s_t (e_add (e_s_t (e_pow (e_s_t e_int) (e_s_t e_int))) (e_s_t e_int))))) (e_s_t (e_add (e_s_t (e_mul (e_s_t e_int) (e_s_t (e_pow (e_s_t e_int) (e_s_t e_int))))) (e_s_t e_int))))) (e_s_t (e_pow (e_s_t e_int) (e_s_t e_int)))))
b_nil)
b_nil)
(b_cons (s_if (t_eq hr.units (e_s_t (e_mod (e_s_t (e_item (e_varT (pv 0)) (e_varT (pv 3)) (fun _ _ => rfl))) (e_s_t e_int))) (e_s_t e_int))
(b_cons (s_set (i := 4) sc__law_poly.nd rfl (Or.inl rfl) e_int)
b_nil)
b_nil)
(b_cons (s_for hp_of rfl (i_rng1 B.n_range (by rfl) (a_cons (e_s_t (e_mul (e_s_t (e_mod (e_s_t (e_fdiv (e_s_t (e_item (e_varT (pv 0)) (e_varT (pv 3)) (fun _ _ => rfl))) (e_s_t e_int))) (e_s_t e_int))) (e_s_t (e_int1 B.n_int (by rfl) (a_cons (e_s_t (e_gt (e_s_t (e_mod (e_s_t (e_item (e_varT (pv 0)) (e_varT (pv 3)) (fun _ _ => rfl))) (e_s_t e_int))) (e_s_t e_int))) a_nil))))) a_nil)) (g_name (pg_name (i := 5) sc__law_poly.nd rfl (Or.inl rfl)))
(b_cons (s_set (i := 4) sc__law_poly.nd rfl (Or.inl rfl) (e_mul (e_varT (pv 4)) (e_varT (pv 1))))
b_nil))
(b_cons (s_app (i := 2) (pv 2) (e_var (pv 4)))
b_nil))))))
(b_cons (s_if (t_eq hr.units (e_s_t (e_item (e_varT (pv 2)) (e_s_t (e_neg (e_s_t e_int))) (fun _ _ => rfl))) (e_s_t e_int))
(b_cons (s_setI (i := 2) (pv 2) e_int (e_neg (e_s_t e_int)))
b_nil)
b_nil)
(b_cons (s_retO (i := 2) (pv 2))
b_nil))))
theorem ok__law_poly (B : Tx K mg) : Okd P w K mg base "_law_poly" ["_law_cells", "_law_p"] 1 2 true F__law_poly := def_ok B.d__law_poly sc__law_poly rfl (fun _ => (nn_seqR (nn_seqR (nn_seqR (nn_seqL (nn_retO _)))))) fun f cdv A outer s H E hr => bd__law_poly B hr
theorem bd__law_whole (B : Tx K mg) {f : Addr} {cdv : Value} {A : Around} {outer : List PySem.Env} {s : Shared} {H : Hp} {E : XK} (hr : Room 0 (A.deeper (envOfC "_law_whole" (defScope st__law_whole) s.heap.objs.size f cdv))) :
    BJ (cxOf (L2N.CX P w) P w K mg base ["_law_got"] "_law_whole" (defScope st__law_whole) f cdv A outer s H E) (fun cls d _ H => E cls d H) false (defBody st__law_whole) D__law_whole :=
  (b_cons (s_ret (e_and (e_isi (n := "int") B.n_isinstance (by rfl) (e_varT (pv 0)) (pe_bltn (by rfl) B.n_int (by decide +kernel) rfl)) (e_one (e_not (e_isi (n := "bool") B.n_isinstance (by rfl) (e_varT (pv 0)) (pe_bltn (by rfl) B.n_bool (by decide +kernel) rfl))))))
b_nil)
theorem ok__law_whole (B : Tx K mg) : Okd P w K mg base "_law_whole" ["_law_got"] 1 1 false F__law_whole := def_ok B.d__law_whole sc__law_whole rfl (fun z => nomatch z) fun f cdv A outer s H E hr => bd__law_whole B hr
theorem bd__law_share (B : Tx K mg) {f : Addr} {cdv : Value} {A : Around} {outer : List PySem.Env} {s : Shared} {H : Hp} {E : XK} (hr : Room 0 (A.deeper (envOfC "_law_share" (defScope st__law_share) s.heap.objs.size f cdv))) :
    BJ (cxOf (L2N.CX P w) P w K mg base ["_law_one", "_law_other"] "_law_share" (defScope st__law_share) f cdv A outer s H E) (fun cls d _ H => E cls d H) false (defBody st__law_share) D__law_share :=
  (b_cons (s_while hp_of (t_ne hr.units (e_varT (pv 1)) (e_s_t e_int))
(b_cons (s_par (i := 0) (j := 1) rfl sc__law_share.nd rfl rfl (by decide) rfl rfl (a_cons (e_var (pv 1)) (a_cons (e_mod (e_varT (pv 0)) (e_varT (pv 1))) a_nil)) (by rfl))
b_nil))
(b_cons (s_ret (e_abs B.n_abs (by rfl) (a_cons (e_varT (pv 0)) a_nil)))
b_nil))
theorem ok__law_share (B : Tx K mg) : Okd P w K mg base "_law_share" ["_law_one", "_law_other"] 1 2 false F__law_share := def_ok B.d__law_share sc__law_share rfl (fun z => nomatch z) fun f cdv A outer s H E hr => bd__law_share B hr
theorem bd__law_is_fraction (B : Tx K mg) {f : Addr} {cdv : Value} {A : Around} {outer : List PySem.Env} {s : Shared} {H : Hp} {E : XK} (hr : Room 1 (A.deeper (envOfC "_law_is_fraction" (defScope st__law_is_fraction) s.heap.objs.size f cdv))) :
    BJ (cxOf (L2N.CX P w) P w K mg base ["_law_got"] "_law_is_fraction" (defScope st__law_is_fraction) f cdv A outer s H E) (fun cls d _ H => E cls d H) false (defBody st__law_is_fraction) D__law_is_fraction :=
  (b_cons (s_if (t_w (w_or (t_not (t_val (e_isi (n := "tuple") B.n_isinstance (by rfl) (e_varT (pv 0)) (pe_bltn (by rfl) B.n_tuple (by decide +kernel) rfl)))) (w_or (t_ne hr.units (e_s_t (e_len B.n_len (by rfl) (a_cons (e_varT (pv 0)) a_nil))) (e_s_t e_int)) (w_or (t_not (t_val (e_callD (ok__law_whole B) hr (by decide) tk_of (by rfl) (a_cons (e_item (e_varT (pv 0)) (e_s_t e_int) (fun _ _ => rfl)) a_nil) (ALen.cons ALen.nil)))) (w_or1 (t_not (t_val (e_callD (ok__law_whole B) hr (by decide) tk_of (by rfl) (a_cons (e_item (e_varT (pv 0)) (e_s_t e_int) (fun _ _ => rfl)) a_nil) (ALen.cons ALen.nil)))))))))
(b_cons (s_ret e_bl)
b_nil)
b_nil)
(b_cons (s_ret (e_and (e_gt (e_s_t (e_item (e_varT (pv 0)) (e_s_t e_int) (fun _ _ => rfl))) (e_s_t e_int)) (e_one (e_eq hr.units (e_s_t (e_callD (ok__law_share B) hr (by decide) tk_of (by rfl) (a_cons (e_item (e_varT (pv 0)) (e_s_t e_int) (fun _ _ => rfl)) (a_cons (e_item (e_varT (pv 0)) (e_s_t e_int) (fun _ _ => rfl)) a_nil)) (ALen.cons (ALen.cons ALen.nil)))) (e_s_t e_int)))))
b_nil))
theorem ok__law_is_fraction (B : Tx K mg) : Okd P w K mg base "_law_is_fraction" ["_law_got"] 2 1 false F__law_is_fraction := def_ok B.d__law_is_fraction sc__law_is_fraction rfl (fun z => nomatch z) fun f cdv A outer s H E hr => bd__law_is_fraction B hr
theorem bd__law_are_pieces (B : Tx K mg) {f : Addr} {cdv : Value} {A : Around} {outer : List PySem.Env} {s : Shared} {H : Hp} {E : XK} (hr : Room 2 (A.deeper (envOfC "_law_are_pieces" (defScope st__law_are_pieces) s.heap.objs.size f cdv))) :
    BJ (cxOf (L2N.CX P w) P w K mg base ["_law_got", "_law_piece"] "_law_are_pieces" (defScope st__law_are_pieces) f cdv A outer s H E) (fun cls d _ H => E cls d H) false (defBody st__law_are_pieces) D__law_are_pieces :=
  (b_cons (s_if (t_not (t_val (e_isi (n := "list") B.n_isinstance (by rfl) (e_varT (pv 0)) (pe_bltn (by rfl) B.n_list (by decide +kernel) rfl))))
(b_cons (s_ret e_bl)
b_nil)
b_nil)
(b_cons (s_for hp_of rfl (i_seq (e_var (pv 0))) (g_name (pg_name (i := 1) sc__law_are_pieces.nd rfl (Or.inl rfl)))
(b_cons (s_if (t_w (w_or (t_not (t_val (e_isi (n := "tuple") B.n_isinstance (by rfl) (e_varT (pv 1)) (pe_bltn (by rfl) B.n_tuple (by decide +kernel) rfl)))) (w_or (t_ne hr.units (e_s_t (e_len B.n_len (by rfl) (a_cons (e_varT (pv 1)) a_nil))) (e_s_t e_int)) (w_or1 (t_not (t_val (e_callD (ok__law_is_fraction B) hr (by decide) tk_of (by rfl) (a_cons (e_item (e_varT (pv 1)) (e_s_t e_int) (fun _ _ => rfl)) a_nil) (ALen.cons ALen.nil))))))))
(b_cons (s_ret e_bl)
b_nil)
b_nil)
(b_cons (s_if (t_w (w_or (t_not (t_val (e_callD (ok__law_whole B) hr (by decide) tk_of (by rfl) (a_cons (e_item (e_varT (pv 1)) (e_s_t e_int) (fun _ _ => rfl)) a_nil) (ALen.cons ALen.nil)))) (w_or1 (t_lt (e_s_t (e_item (e_varT (pv 1)) (e_s_t e_int) (fun _ _ => rfl))) (e_s_t e_int)))))
(b_cons (s_ret e_bl)
b_nil)
b_nil)
b_nil)))
(b_cons (s_ret e_bl)
b_nil)))
theorem ok__law_are_pieces (B : Tx K mg) : Okd P w K mg base "_law_are_pieces" ["_law_got"] 3 1 false F__law_are_pieces := def_ok B.d__law_are_pieces sc__law_are_pieces rfl (fun z => nomatch z) fun f cdv A outer s H E hr => bd__law_are_pieces B hr
theorem bd_law (B : Tx K mg) {f : Addr} {cdv : Value} {A : Around} {outer : List PySem.Env} {s : Shared} {H : Hp} {E : XK} (hr : Room 5 (A.deeper (envOfC "law" (defScope st_law) s.heap.objs.size f cdv))) :
    BZ (cxOf (L2N.CX P w) P w K mg base ["_law_script", "_law_p", "_law_cells", "_law_poly_here", "_law_handed", "_law_told", "_law_bends", "_law_k", "_law_part", "_law_many", "_law_right", "_law_left", "_law_number", "_law_piece"] "law" (defScope st_law) f cdv A outer s H E) (defBody st_law) D_law :=
  (bz_cons (W := fun cls d _ H => E cls d H) (s_set (i := 1) sc_law.nd rfl (Or.inl rfl) (e_callD (ok__law_prime B) hr (by decide) tk_of (by rfl) (a_cons (e_callD (ok__law_cell_at B) hr (by decide) tk_of (by rfl) (a_cons (e_var (pv 0)) (a_cons e_int a_nil)) (ALen.cons (ALen.cons ALen.nil))) a_nil) (ALen.cons ALen.nil)))
(bz_cons (W := fun cls d _ H => E cls d H) (s_set (i := 2) sc_law.nd rfl (Or.inl rfl) (e_slice (e_s_t (e_add (e_s_t (e_slice (e_varT (pv 0)) (o_some e_int) (o_some (e_add (e_s_t (e_add (e_s_t e_int) (e_s_t e_int))) (e_s_t (e_mod (e_s_t (e_callD (ok__law_cell_at B) hr (by decide) tk_of (by rfl) (a_cons (e_var (pv 0)) (a_cons e_int a_nil)) (ALen.cons (ALen.cons ALen.nil)))) (e_s_t e_int))))))) (e_f_t (e_lst (a_cons e_int (a_cons e_int a_nil)))))) o_none (o_some e_int)))
(bz_cons (W := fun cls d _ H => E cls d H) (s_set (i := 3) sc_law.nd rfl (Or.inl rfl) (e_f_s (e_callD (ok__law_poly B) hr (by decide) tk_of (by rfl) (a_cons (e_var (pv 2)) (a_cons (e_var (pv 1)) a_nil)) (ALen.cons (ALen.cons ALen.nil)))))
(bz_cons (W := fun cls d _ H => E cls d H) (s_set (i := 4) sc_law.nd rfl (Or.inl rfl) (e_f_s (e_list B.n_list (by rfl) (a_cons (e_varT (pv 3)) a_nil))))
(bz_cons (W := fun cls d _ H => E cls d H) (s_set (i := 5) sc_law.nd rfl (Or.inl rfl) (e_callD (ok_sizes_of B) hr (by decide) tk_of (by rfl) (a_cons (e_var (pv 1)) (a_cons (e_var (pv 4)) a_nil)) (ALen.cons (ALen.cons ALen.nil))))
(bz_cons (W := fun cls d _ H => E cls d H) (s_if (t_w (w_or (t_not (t_val (e_isi (n := "tuple") B.n_isinstance (by rfl) (e_varT (pv 5)) (pe_bltn (by rfl) B.n_tuple (by decide +kernel) rfl)))) (w_or (t_ne hr.units (e_s_t (e_len B.n_len (by rfl) (a_cons (e_varT (pv 5)) a_nil))) (e_s_t e_int)) (w_or (t_not (t_val (e_callD (ok__law_whole B) hr (by decide) tk_of (by rfl) (a_cons (e_item (e_varT (pv 5)) (e_s_t e_int) (fun _ _ => rfl)) a_nil) (ALen.cons ALen.nil)))) (w_or1 (t_not (t_val (e_callD (ok__law_are_pieces B) hr (by decide) tk_of (by rfl) (a_cons (e_item (e_varT (pv 5)) (e_s_t e_int) (fun _ _ => rfl)) a_nil) (ALen.cons ALen.nil)))))))))
(b_cons (s_ret e_bl)
b_nil)
b_nil)
(bz_cons (W := fun cls d _ H => E cls d H) (s_if (t_w (w_or (t_ne hr.units (e_f_t (e_lc (own := [("_law_number", 12)]) rfl sc_law.nd (i_seq (e_slice (e_varT (pv 3)) o_none (o_some (e_item (e_varT (pv 5)) (e_s_t e_int) (fun _ _ => rfl))))) (blkOk_by (own := [("_law_number", 12)]) (N := ["_law_script", "_law_p", "_law_cells", "_law_poly_here", "_law_handed", "_law_told", "_law_bends", "_law_k", "_law_part", "_law_many", "_law_right", "_law_left", "_law_number", "_law_piece"]) (sc := defScope st_law) (by decide +kernel)) (by decide) (fun _ _ _ _ _ => (g_name (pg_name (i := 12) sc_law.nd rfl (Or.inl rfl)))) (fun _ _ _ _ _ => (c_one (t_ne hr.units (e_varT (pv 12)) (e_s_t e_int)))) (fun _ _ _ _ _ => (e_var (pv 12))))) (e_f_t (e_lst a_nil))) (w_or (t_lt (e_s_t (e_item (e_varT (pv 5)) (e_s_t e_int) (fun _ _ => rfl))) (e_s_t e_int)) (w_or1 (t_eq hr.units (e_s_t (e_item (e_varT (pv 3)) (e_s_t (e_item (e_varT (pv 5)) (e_s_t e_int) (fun _ _ => rfl))) (fun _ _ => rfl))) (e_s_t e_int))))))
(b_cons (s_ret e_bl)
b_nil)
b_nil)
(bz_cons (W := fun cls d _ H => E cls d H) (s_set (i := 6) sc_law.nd rfl (Or.inl rfl) (e_f_s (e_callD (ok_corners_of B) hr (by decide) tk_of (by rfl) (a_cons (e_var (pv 1)) (a_cons (e_var (pv 3)) a_nil)) (ALen.cons (ALen.cons ALen.nil)))))
(bz_cons (W := fun cls d _ H => E cls d H) (s_if (t_w (w_or (t_ne hr.units (e_s_t (e_len B.n_len (by rfl) (a_cons (e_s_t (e_item (e_varT (pv 5)) (e_s_t e_int) (fun _ _ => rfl))) a_nil))) (e_s_t (e_sub (e_s_t (e_len B.n_len (by rfl) (a_cons (e_varT (pv 6)) a_nil))) (e_s_t e_int)))) (w_or1 (t_ne hr.units (e_s_t (e_add (e_s_t (e_item (e_varT (pv 5)) (e_s_t e_int) (fun _ _ => rfl))) (e_s_t (e_sum1 rfl B.n_sum (by rfl) (a_cons (e_f_t (e_lc (own := [("_law_piece", 13)]) rfl sc_law.nd (i_seq (e_item (e_varT (pv 5)) (e_s_t e_int) (fun _ _ => rfl))) (blkOk_by (own := [("_law_piece", 13)]) (N := ["_law_script", "_law_p", "_law_cells", "_law_poly_here", "_law_handed", "_law_told", "_law_bends", "_law_k", "_law_part", "_law_many", "_law_right", "_law_left", "_law_number", "_law_piece"]) (sc := defScope st_law) (by decide +kernel)) (by decide) (fun _ _ _ _ _ => (g_name (pg_name (i := 13) sc_law.nd rfl (Or.inl rfl)))) (fun _ _ _ _ _ => c_nil) (fun _ _ _ _ _ => (e_item (e_varT (pv 13)) (e_s_t e_int) (fun _ _ => rfl))))) a_nil))))) (e_s_t (e_sub (e_s_t (e_len B.n_len (by rfl) (a_cons (e_varT (pv 3)) a_nil))) (e_s_t e_int)))))))
(b_cons (s_ret e_bl)
b_nil)
b_nil)
(bz_cons (W := fun cls d _ H => E cls d H) (s_for hp_of rfl (i_rng1 B.n_range (by rfl) (a_cons (e_s_t (e_len B.n_len (by rfl) (a_cons (e_s_t (e_item (e_varT (pv 5)) (e_s_t e_int) (fun _ _ => rfl))) a_nil))) a_nil)) (g_name (pg_name (i := 7) sc_law.nd rfl (Or.inl rfl)))
(b_cons (s_to (e_item (e_s_t (e_item (e_varT (pv 5)) (e_s_t e_int) (fun _ _ => rfl))) (e_varT (pv 7)) (fun _ _ => rfl)) (g_tup rfl (gs_cons (g_name (pg_name (i := 8) sc_law.nd rfl (Or.inl rfl))) (gs_cons (g_name (pg_name (i := 9) sc_law.nd rfl (Or.inl rfl))) gs_nil)) (gs_len (gs_len gs_len0))))
(b_cons (s_set (i := 10) sc_law.nd rfl (Or.inl rfl) (e_item (e_varT (pv 6)) (e_s_t (e_sub (e_s_t (e_sub (e_s_t (e_len B.n_len (by rfl) (a_cons (e_varT (pv 6)) a_nil))) (e_s_t e_int))) (e_varT (pv 7)))) (fun _ _ => rfl)))
(b_cons (s_set (i := 11) sc_law.nd rfl (Or.inl rfl) (e_item (e_varT (pv 6)) (e_s_t (e_sub (e_s_t (e_sub (e_s_t (e_len B.n_len (by rfl) (a_cons (e_varT (pv 6)) a_nil))) (e_s_t e_int))) (e_varT (pv 7)))) (fun _ _ => rfl)))
(b_cons (s_if (t_w (w_or (t_ne hr.units (e_varT (pv 9)) (e_s_t (e_sub (e_s_t (e_item (e_varT (pv 10)) (e_s_t e_int) (fun _ _ => rfl))) (e_s_t (e_item (e_varT (pv 11)) (e_s_t e_int) (fun _ _ => rfl)))))) (w_or1 (t_ne hr.units (e_s_t (e_mul (e_s_t (e_item (e_varT (pv 8)) (e_s_t e_int) (fun _ _ => rfl))) (e_varT (pv 9)))) (e_s_t (e_mul (e_s_t (e_sub (e_s_t (e_item (e_varT (pv 11)) (e_s_t e_int) (fun _ _ => rfl))) (e_s_t (e_item (e_varT (pv 10)) (e_s_t e_int) (fun _ _ => rfl))))) (e_s_t (e_item (e_varT (pv 8)) (e_s_t e_int) (fun _ _ => rfl)))))))))
(b_cons (s_ret e_bl)
b_nil)
b_nil)
(b_cons (s_if (t_w (w_and (t_gt (e_varT (pv 7)) (e_s_t e_int)) (w_and1 (t_ge (e_s_t (e_mul (e_s_t (e_item (e_s_t (e_item (e_s_t (e_item (e_s_t (e_item (e_varT (pv 5)) (e_s_t e_int) (fun _ _ => rfl))) (e_s_t (e_sub (e_varT (pv 7)) (e_s_t e_int))) (fun _ _ => rfl))) (e_s_t e_int) (fun _ _ => rfl))) (e_s_t e_int) (fun _ _ => rfl))) (e_s_t (e_item (e_varT (pv 8)) (e_s_t e_int) (fun _ _ => rfl))))) (e_s_t (e_mul (e_s_t (e_item (e_varT (pv 8)) (e_s_t e_int) (fun _ _ => rfl))) (e_s_t (e_item (e_s_t (e_item (e_s_t (e_item (e_s_t (e_item (e_varT (pv 5)) (e_s_t e_int) (fun _ _ => rfl))) (e_s_t (e_sub (e_varT (pv 7)) (e_s_t e_int))) (fun _ _ => rfl))) (e_s_t e_int) (fun _ _ => rfl))) (e_s_t e_int) (fun _ _ => rfl)))))))))
(b_cons (s_ret e_bl)
b_nil)
b_nil)
b_nil))))))
(bz_clear (W := fun cls d _ H => E cls d H) (i := 5) (k := 1) (e_item (e_varT (pv 5)) (e_s_t e_int) (fun _ _ => rfl))
(bz_cons (W := fun cls d _ H => E cls d H) (s_ret (e_and (e_eq hr.units (e_s_t (e_len B.n_len (by rfl) (a_cons (e_s_t (e_item (e_s_t (e_callD (ok_sizes_of B) hr (by decide) tk_of (by rfl) (a_cons (e_var (pv 1)) (a_cons (e_var (pv 4)) a_nil)) (ALen.cons (ALen.cons ALen.nil)))) (e_s_t e_int) (fun _ _ => rfl))) a_nil))) (e_s_t (e_sub (e_s_t (e_len B.n_len (by rfl) (a_cons (e_varT (pv 6)) a_nil))) (e_s_t e_int)))) (e_one (e_eq hr.units (e_varT (pv 4)) (e_varT (pv 3))))))
bz_nil))))))))))))
end
theorem all_mk {l : PySem.W.OpenLaw} {w : World} {K : PySem.W.Frag} {h : Heap} {mg : Str → Option Value} {fa : Addr} (X : K.In h) (G : h.Ns mainGlobals mg) (hfa : mg "law" = some (.ref fa))
    {f0 : Addr} {od0 an0 : Option Addr} {sl0 : Array (Option Value)} {oc0 kV0 dc0 pm0 cd0 ct0 : Value}
    {f1 : Addr} {od1 an1 : Option Addr} {sl1 : Array (Option Value)} {oc1 kV1 dc1 pm1 cd1 ct1 : Value}
    {f2 : Addr} {od2 an2 : Option Addr} {sl2 : Array (Option Value)} {oc2 kV2 dc2 pm2 cd2 ct2 : Value}
    {f3 : Addr} {od3 an3 : Option Addr} {sl3 : Array (Option Value)} {oc3 kV3 dc3 pm3 cd3 ct3 : Value}
    {f4 : Addr} {od4 an4 : Option Addr} {sl4 : Array (Option Value)} {oc4 kV4 dc4 pm4 cd4 ct4 : Value} {T4 : Addr} {td4 : Option Addr} {tc4 : Value} {tm4 : Nat} {tt4 : Tok} {tl4 : Array (Option Value)}
    {f5 : Addr} {od5 an5 : Option Addr} {sl5 : Array (Option Value)} {oc5 kV5 dc5 pm5 cd5 ct5 : Value}
    {f6 : Addr} {od6 an6 : Option Addr} {sl6 : Array (Option Value)} {oc6 kV6 dc6 pm6 cd6 ct6 : Value}
    {f7 : Addr} {od7 an7 : Option Addr} {sl7 : Array (Option Value)} {oc7 kV7 dc7 pm7 cd7 ct7 : Value}
    {f8 : Addr} {od8 an8 : Option Addr} {sl8 : Array (Option Value)} {oc8 kV8 dc8 pm8 cd8 ct8 : Value}
    {f9 : Addr} {od9 an9 : Option Addr} {sl9 : Array (Option Value)} {oc9 kV9 dc9 pm9 cd9 ct9 : Value}
    {f10 : Addr} {od10 an10 : Option Addr} {sl10 : Array (Option Value)} {oc10 kV10 dc10 pm10 cd10 ct10 : Value}
    {f11 : Addr} {od11 an11 : Option Addr} {sl11 : Array (Option Value)} {oc11 kV11 dc11 pm11 cd11 ct11 : Value}
    {f12 : Addr} {od12 an12 : Option Addr} {sl12 : Array (Option Value)} {oc12 kV12 dc12 pm12 cd12 ct12 : Value}
    {f13 : Addr} {od13 an13 : Option Addr} {sl13 : Array (Option Value)} {oc13 kV13 dc13 pm13 cd13 ct13 : Value}
    {f14 : Addr} {od14 an14 : Option Addr} {sl14 : Array (Option Value)} {oc14 kV14 dc14 pm14 cd14 ct14 : Value}
    {f15 : Addr} {od15 an15 : Option Addr} {sl15 : Array (Option Value)} {oc15 kV15 dc15 pm15 cd15 ct15 : Value}
    {f16 : Addr} {od16 an16 : Option Addr} {sl16 : Array (Option Value)} {oc16 kV16 dc16 pm16 cd16 ct16 : Value}
    {f17 : Addr} {od17 an17 : Option Addr} {sl17 : Array (Option Value)} {oc17 kV17 dc17 pm17 cd17 ct17 : Value}
    {t0 : Tok}
    {t1 : Tok}
    {C0 : Addr}
    {C1 : Addr}
    {C2 : Addr}
    (a0 : PySem.W.nsIn K mainGlobals "is_whole" = some (some (.ref f0))) (l0 : K.lookup f0 = some ⟨oc0, od0, .func (PySem.W.fnOf "is_whole" "is_whole" (defArgs st_is_whole) (defBody st_is_whole) (defScope st_is_whole) .none kV0 dc0 pm0 an0 cd0 ct0), sl0⟩) (c0 : PySem.W.codeIn K cd0 "is_whole" = true) (k0 : PySem.W.keepIn K (.ref f0) = true)
    (a1 : PySem.W.nsIn K mainGlobals "is_prime" = some (some (.ref f1))) (l1 : K.lookup f1 = some ⟨oc1, od1, .func (PySem.W.fnOf "is_prime" "is_prime" (defArgs st_is_prime) (defBody st_is_prime) (defScope st_is_prime) .none kV1 dc1 pm1 an1 cd1 ct1), sl1⟩) (c1 : PySem.W.codeIn K cd1 "is_prime" = true) (k1 : PySem.W.keepIn K (.ref f1) = true)
    (a2 : PySem.W.nsIn K mainGlobals "exponent" = some (some (.ref f2))) (l2 : K.lookup f2 = some ⟨oc2, od2, .func (PySem.W.fnOf "exponent" "exponent" (defArgs st_exponent) (defBody st_exponent) (defScope st_exponent) .none kV2 dc2 pm2 an2 cd2 ct2), sl2⟩) (c2 : PySem.W.codeIn K cd2 "exponent" = true) (k2 : PySem.W.keepIn K (.ref f2) = true)
    (a3 : PySem.W.nsIn K mainGlobals "divisor" = some (some (.ref f3))) (l3 : K.lookup f3 = some ⟨oc3, od3, .func (PySem.W.fnOf "divisor" "divisor" (defArgs st_divisor) (defBody st_divisor) (defScope st_divisor) .none kV3 dc3 pm3 an3 cd3 ct3), sl3⟩) (c3 : PySem.W.codeIn K cd3 "divisor" = true) (k3 : PySem.W.keepIn K (.ref f3) = true)
    (a4 : PySem.W.nsIn K mainGlobals "fraction" = some (some (.ref f4))) (l4 : K.lookup f4 = some ⟨oc4, od4, .func (PySem.W.fnOf "fraction" "fraction" (defArgs st_fraction) (defBody st_fraction) (defScope st_fraction) (.ref T4) kV4 dc4 pm4 an4 cd4 ct4), sl4⟩) (c4 : PySem.W.codeIn K cd4 "fraction" = true) (k4 : PySem.W.keepIn K (.ref f4) = true) (lt4 : K.lookup T4 = some ⟨tc4, td4, .seq #[.int 1 tt4] tm4, tl4⟩)
    (a5 : PySem.W.nsIn K mainGlobals "is_poly" = some (some (.ref f5))) (l5 : K.lookup f5 = some ⟨oc5, od5, .func (PySem.W.fnOf "is_poly" "is_poly" (defArgs st_is_poly) (defBody st_is_poly) (defScope st_is_poly) .none kV5 dc5 pm5 an5 cd5 ct5), sl5⟩) (c5 : PySem.W.codeIn K cd5 "is_poly" = true) (k5 : PySem.W.keepIn K (.ref f5) = true)
    (a6 : PySem.W.nsIn K mainGlobals "points_of" = some (some (.ref f6))) (l6 : K.lookup f6 = some ⟨oc6, od6, .func (PySem.W.fnOf "points_of" "points_of" (defArgs st_points_of) (defBody st_points_of) (defScope st_points_of) .none kV6 dc6 pm6 an6 cd6 ct6), sl6⟩) (c6 : PySem.W.codeIn K cd6 "points_of" = true) (k6 : PySem.W.keepIn K (.ref f6) = true)
    (a7 : PySem.W.nsIn K mainGlobals "is_needless" = some (some (.ref f7))) (l7 : K.lookup f7 = some ⟨oc7, od7, .func (PySem.W.fnOf "is_needless" "is_needless" (defArgs st_is_needless) (defBody st_is_needless) (defScope st_is_needless) .none kV7 dc7 pm7 an7 cd7 ct7), sl7⟩) (c7 : PySem.W.codeIn K cd7 "is_needless" = true) (k7 : PySem.W.keepIn K (.ref f7) = true)
    (a8 : PySem.W.nsIn K mainGlobals "corners_of" = some (some (.ref f8))) (l8 : K.lookup f8 = some ⟨oc8, od8, .func (PySem.W.fnOf "corners_of" "corners_of" (defArgs st_corners_of) (defBody st_corners_of) (defScope st_corners_of) .none kV8 dc8 pm8 an8 cd8 ct8), sl8⟩) (c8 : PySem.W.codeIn K cd8 "corners_of" = true) (k8 : PySem.W.keepIn K (.ref f8) = true)
    (a9 : PySem.W.nsIn K mainGlobals "sizes_of" = some (some (.ref f9))) (l9 : K.lookup f9 = some ⟨oc9, od9, .func (PySem.W.fnOf "sizes_of" "sizes_of" (defArgs st_sizes_of) (defBody st_sizes_of) (defScope st_sizes_of) .none kV9 dc9 pm9 an9 cd9 ct9), sl9⟩) (c9 : PySem.W.codeIn K cd9 "sizes_of" = true) (k9 : PySem.W.keepIn K (.ref f9) = true)
    (a10 : PySem.W.nsIn K mainGlobals "_law_cell_at" = some (some (.ref f10))) (l10 : K.lookup f10 = some ⟨oc10, od10, .func (PySem.W.fnOf "_law_cell_at" "_law_cell_at" (defArgs st__law_cell_at) (defBody st__law_cell_at) (defScope st__law_cell_at) .none kV10 dc10 pm10 an10 cd10 ct10), sl10⟩) (c10 : PySem.W.codeIn K cd10 "_law_cell_at" = true) (k10 : PySem.W.keepIn K (.ref f10) = true)
    (a11 : PySem.W.nsIn K mainGlobals "_law_prime" = some (some (.ref f11))) (l11 : K.lookup f11 = some ⟨oc11, od11, .func (PySem.W.fnOf "_law_prime" "_law_prime" (defArgs st__law_prime) (defBody st__law_prime) (defScope st__law_prime) .none kV11 dc11 pm11 an11 cd11 ct11), sl11⟩) (c11 : PySem.W.codeIn K cd11 "_law_prime" = true) (k11 : PySem.W.keepIn K (.ref f11) = true)
    (a12 : PySem.W.nsIn K mainGlobals "_law_poly" = some (some (.ref f12))) (l12 : K.lookup f12 = some ⟨oc12, od12, .func (PySem.W.fnOf "_law_poly" "_law_poly" (defArgs st__law_poly) (defBody st__law_poly) (defScope st__law_poly) .none kV12 dc12 pm12 an12 cd12 ct12), sl12⟩) (c12 : PySem.W.codeIn K cd12 "_law_poly" = true) (k12 : PySem.W.keepIn K (.ref f12) = true)
    (a13 : PySem.W.nsIn K mainGlobals "_law_whole" = some (some (.ref f13))) (l13 : K.lookup f13 = some ⟨oc13, od13, .func (PySem.W.fnOf "_law_whole" "_law_whole" (defArgs st__law_whole) (defBody st__law_whole) (defScope st__law_whole) .none kV13 dc13 pm13 an13 cd13 ct13), sl13⟩) (c13 : PySem.W.codeIn K cd13 "_law_whole" = true) (k13 : PySem.W.keepIn K (.ref f13) = true)
    (a14 : PySem.W.nsIn K mainGlobals "_law_share" = some (some (.ref f14))) (l14 : K.lookup f14 = some ⟨oc14, od14, .func (PySem.W.fnOf "_law_share" "_law_share" (defArgs st__law_share) (defBody st__law_share) (defScope st__law_share) .none kV14 dc14 pm14 an14 cd14 ct14), sl14⟩) (c14 : PySem.W.codeIn K cd14 "_law_share" = true) (k14 : PySem.W.keepIn K (.ref f14) = true)
    (a15 : PySem.W.nsIn K mainGlobals "_law_is_fraction" = some (some (.ref f15))) (l15 : K.lookup f15 = some ⟨oc15, od15, .func (PySem.W.fnOf "_law_is_fraction" "_law_is_fraction" (defArgs st__law_is_fraction) (defBody st__law_is_fraction) (defScope st__law_is_fraction) .none kV15 dc15 pm15 an15 cd15 ct15), sl15⟩) (c15 : PySem.W.codeIn K cd15 "_law_is_fraction" = true) (k15 : PySem.W.keepIn K (.ref f15) = true)
    (a16 : PySem.W.nsIn K mainGlobals "_law_are_pieces" = some (some (.ref f16))) (l16 : K.lookup f16 = some ⟨oc16, od16, .func (PySem.W.fnOf "_law_are_pieces" "_law_are_pieces" (defArgs st__law_are_pieces) (defBody st__law_are_pieces) (defScope st__law_are_pieces) .none kV16 dc16 pm16 an16 cd16 ct16), sl16⟩) (c16 : PySem.W.codeIn K cd16 "_law_are_pieces" = true) (k16 : PySem.W.keepIn K (.ref f16) = true)
    (a17 : PySem.W.nsIn K mainGlobals "law" = some (some (.ref f17))) (l17 : K.lookup f17 = some ⟨oc17, od17, .func (PySem.W.fnOf "law" "law" (defArgs st_law) (defBody st_law) (defScope st_law) .none kV17 dc17 pm17 an17 cd17 ct17), sl17⟩) (c17 : PySem.W.codeIn K cd17 "law" = true) (k17 : PySem.W.keepIn K (.ref f17) = true)
    (z0 : PySem.W.nsIn K mainGlobals "abs" = some none)
    (z1 : PySem.W.nsIn K mainGlobals "all" = some none)
    (z2 : PySem.W.nsIn K mainGlobals "bool" = some none)
    (z3 : PySem.W.nsIn K mainGlobals "divmod" = some none)
    (z4 : PySem.W.nsIn K mainGlobals "enumerate" = some none)
    (z5 : PySem.W.nsIn K mainGlobals "int" = some none)
    (z6 : PySem.W.nsIn K mainGlobals "isinstance" = some none)
    (z7 : PySem.W.nsIn K mainGlobals "len" = some none)
    (z8 : PySem.W.nsIn K mainGlobals "list" = some none)
    (z9 : PySem.W.nsIn K mainGlobals "range" = some none)
    (z10 : PySem.W.nsIn K mainGlobals "sum" = some none)
    (z11 : PySem.W.nsIn K mainGlobals "tuple" = some none)
    (g0 : PySem.W.nsIn K mainGlobals "MOST_NUMBERS" = some (some (.int 9 t0)))
    (g1 : PySem.W.nsIn K mainGlobals "MOST_PRIME" = some (some (.int 97 t1)))
    (xa0 : PySem.W.nsIn K mainGlobals "NoFraction" = some (some (.ref C0))) (xe0 : PySem.W.excIn K C0 [.type "ValueError", .type "Exception", .type "BaseException", .type "object"] "ValueError.__new__" = true) (xk0 : PySem.W.keepIn K (.ref C0) = true) (xs0 : PySem.W.subIn K (.ref C0) (.type "BaseException") = some true) (xt0 : PySem.W.typeIn K (.ref C0) = some (.type "type"))
    (xa1 : PySem.W.nsIn K mainGlobals "NoPolynomial" = some (some (.ref C1))) (xe1 : PySem.W.excIn K C1 [.type "ValueError", .type "Exception", .type "BaseException", .type "object"] "ValueError.__new__" = true) (xk1 : PySem.W.keepIn K (.ref C1) = true) (xs1 : PySem.W.subIn K (.ref C1) (.type "BaseException") = some true) (xt1 : PySem.W.typeIn K (.ref C1) = some (.type "type"))
    (xa2 : PySem.W.nsIn K mainGlobals "NoPrime" = some (some (.ref C2))) (xe2 : PySem.W.excIn K C2 [.type "ValueError", .type "Exception", .type "BaseException", .type "object"] "ValueError.__new__" = true) (xk2 : PySem.W.keepIn K (.ref C2) = true) (xs2 : PySem.W.subIn K (.ref C2) (.type "BaseException") = some true) (xt2 : PySem.W.typeIn K (.ref C2) = some (.type "type"))
    : ∃ fd : FuncData, (∀ (s : Shared) (v : Value), BindsTo s fd ⟨[v], []⟩ [("_law_script", v)]) ∧ ∀ base : Heap, K.In base → base.Ns mainGlobals mg → FnOk l.prog w K mg base (L2N.CX l.prog w) 6 fa fd ["_law_script"] (spLaw K) := by
  have e := hfa.symm.trans (PySem.W.mg_of X G a17)
  cases e
  have B : Tx K mg := ⟨defE_mk X G a0 l0 c0 k0 fun _ _ _ _ _ _ us hl => match us, hl with | [_], _ => rfl,
    defE_mk X G a1 l1 c1 k1 fun _ _ _ _ _ _ us hl => match us, hl with | [_], _ => rfl,
    defE_mk X G a2 l2 c2 k2 fun _ _ _ _ _ _ us hl => match us, hl with | [_, _], _ => rfl,
    defE_mk X G a3 l3 c3 k3 fun _ _ _ _ _ _ us hl => match us, hl with | [_, _], _ => rfl,
    defED_mk X G a4 l4 c4 k4 lt4 (fun _ _ _ _ _ _ _ us its hl h2 => match us, its, hl, h2 with | [_, _], [_], _, _ => ⟨_, rfl, rfl⟩) (fun _ _ _ _ _ _ _ us its hl h2 => match us, its, hl, h2 with | [_], [_], _, _ => ⟨_, rfl, rfl⟩),
    defE_mk X G a5 l5 c5 k5 fun _ _ _ _ _ _ us hl => match us, hl with | [_], _ => rfl,
    defE_mk X G a6 l6 c6 k6 fun _ _ _ _ _ _ us hl => match us, hl with | [_, _], _ => rfl,
    defE_mk X G a7 l7 c7 k7 fun _ _ _ _ _ _ us hl => match us, hl with | [_, _, _], _ => rfl,
    defE_mk X G a8 l8 c8 k8 fun _ _ _ _ _ _ us hl => match us, hl with | [_, _], _ => rfl,
    defE_mk X G a9 l9 c9 k9 fun _ _ _ _ _ _ us hl => match us, hl with | [_, _], _ => rfl,
    defE_mk X G a10 l10 c10 k10 fun _ _ _ _ _ _ us hl => match us, hl with | [_, _], _ => rfl,
    defE_mk X G a11 l11 c11 k11 fun _ _ _ _ _ _ us hl => match us, hl with | [_], _ => rfl,
    defE_mk X G a12 l12 c12 k12 fun _ _ _ _ _ _ us hl => match us, hl with | [_, _], _ => rfl,
    defE_mk X G a13 l13 c13 k13 fun _ _ _ _ _ _ us hl => match us, hl with | [_], _ => rfl,
    defE_mk X G a14 l14 c14 k14 fun _ _ _ _ _ _ us hl => match us, hl with | [_, _], _ => rfl,
    defE_mk X G a15 l15 c15 k15 fun _ _ _ _ _ _ us hl => match us, hl with | [_], _ => rfl,
    defE_mk X G a16 l16 c16 k16 fun _ _ _ _ _ _ us hl => match us, hl with | [_], _ => rfl,
    PySem.W.mg_none_of X G z0,
    PySem.W.mg_none_of X G z1,
    PySem.W.mg_none_of X G z2,
    PySem.W.mg_none_of X G z3,
    PySem.W.mg_none_of X G z4,
    PySem.W.mg_none_of X G z5,
    PySem.W.mg_none_of X G z6,
    PySem.W.mg_none_of X G z7,
    PySem.W.mg_none_of X G z8,
    PySem.W.mg_none_of X G z9,
    PySem.W.mg_none_of X G z10,
    PySem.W.mg_none_of X G z11,
    glI_mk X G g0,
    glI_mk X G g1,
    excE_mk X G xa0 xe0 xk0 xs0 xt0,
    excE_mk X G xa1 xe1 xk1 xs1 xt1,
    excE_mk X G xa2 xe2 xk2 xs2 xt2⟩
  exact ⟨_, fun s v => .of_eq rfl, fun base _ _ => law_z (N := ["_law_script", "_law_p", "_law_cells", "_law_poly_here", "_law_handed", "_law_told", "_law_bends", "_law_k", "_law_part", "_law_many", "_law_right", "_law_left", "_law_number", "_law_piece"]) (g := D_law) law_true (fun_mk (st := st_law) l17 c17 k17) sc_law rfl fun cdv A outer s H E hr => bd_law B hr⟩
end K72
open PySem PySem.W PyProof.Rows
set_option maxHeartbeats 0 in
theorem PySem.Challenge.cw_leftnumbers_k72_pieces_of_the_line_holds : PySem.Challenge.rw_leftnumbers_k72_pieces_of_the_line.Holds := by
  w_on; o_law; k_head; (case hw => w_witness2)
  k_fill
  refine L2.walk_ofB (l := PySem.Challenge.rw_leftnumbers_k72_pieces_of_the_line) (n := 63) (k := 6) (x := "_law_script") (CX := fun w => L2N.CX PySem.Challenge.rw_leftnumbers_k72_pieces_of_the_line.prog w) (sp := fun w => PL.spLaw _) rfl (by decide) rfl ⟨rfl, by decide, by decide⟩ (fun w h Y => PySem.W.kIn_of Y) ?F (fun _ _ a ns hl hB hO hS => ⟨a, ns, rfl, hS, hO, hl, hB, fun _ _ e => e⟩) (fun _ _ _ _ _ h => PL.cx_none h)
  case F =>
    intro w mg fa h KX G hmg
    refine' K72.all_mk KX G hmg ?pl_a0 ?pl_l0 ?pl_c0 ?pl_k0 ?pl_a1 ?pl_l1 ?pl_c1 ?pl_k1 ?pl_a2 ?pl_l2 ?pl_c2 ?pl_k2 ?pl_a3 ?pl_l3 ?pl_c3 ?pl_k3 ?pl_a4 ?pl_l4 ?pl_c4 ?pl_k4 ?pl_lt4 ?pl_a5 ?pl_l5 ?pl_c5 ?pl_k5 ?pl_a6 ?pl_l6 ?pl_c6 ?pl_k6 ?pl_a7 ?pl_l7 ?pl_c7 ?pl_k7 ?pl_a8 ?pl_l8 ?pl_c8 ?pl_k8 ?pl_a9 ?pl_l9 ?pl_c9 ?pl_k9 ?pl_a10 ?pl_l10 ?pl_c10 ?pl_k10 ?pl_a11 ?pl_l11 ?pl_c11 ?pl_k11 ?pl_a12 ?pl_l12 ?pl_c12 ?pl_k12 ?pl_a13 ?pl_l13 ?pl_c13 ?pl_k13 ?pl_a14 ?pl_l14 ?pl_c14 ?pl_k14 ?pl_a15 ?pl_l15 ?pl_c15 ?pl_k15 ?pl_a16 ?pl_l16 ?pl_c16 ?pl_k16 ?pl_a17 ?pl_l17 ?pl_c17 ?pl_k17 ?pl_z0 ?pl_z1 ?pl_z2 ?pl_z3 ?pl_z4 ?pl_z5 ?pl_z6 ?pl_z7 ?pl_z8 ?pl_z9 ?pl_z10 ?pl_z11 ?pl_g0 ?pl_g1 ?pl_xa0 ?pl_xe0 ?pl_xk0 ?pl_xs0 ?pl_xt0 ?pl_xa1 ?pl_xe1 ?pl_xk1 ?pl_xs1 ?pl_xt1 ?pl_xa2 ?pl_xe2 ?pl_xk2 ?pl_xs2 ?pl_xt2
    (case pl_a0 => k_is)
    (case pl_l0 => k_is)
    (case pl_c0 => k_is)
    (case pl_k0 => k_is)
    (case pl_a1 => k_is)
    (case pl_l1 => k_is)
    (case pl_c1 => k_is)
    (case pl_k1 => k_is)
    (case pl_a2 => k_is)
    (case pl_l2 => k_is)
    (case pl_c2 => k_is)
    (case pl_k2 => k_is)
    (case pl_a3 => k_is)
    (case pl_l3 => k_is)
    (case pl_c3 => k_is)
    (case pl_k3 => k_is)
    (case pl_a4 => k_is)
    (case pl_l4 => k_is)
    (case pl_c4 => k_is)
    (case pl_k4 => k_is)
    (case pl_lt4 => k_is)
    (case pl_a5 => k_is)
    (case pl_l5 => k_is)
    (case pl_c5 => k_is)
    (case pl_k5 => k_is)
    (case pl_a6 => k_is)
    (case pl_l6 => k_is)
    (case pl_c6 => k_is)
    (case pl_k6 => k_is)
    (case pl_a7 => k_is)
    (case pl_l7 => k_is)
    (case pl_c7 => k_is)
    (case pl_k7 => k_is)
    (case pl_a8 => k_is)
    (case pl_l8 => k_is)
    (case pl_c8 => k_is)
    (case pl_k8 => k_is)
    (case pl_a9 => k_is)
    (case pl_l9 => k_is)
    (case pl_c9 => k_is)
    (case pl_k9 => k_is)
    (case pl_a10 => k_is)
    (case pl_l10 => k_is)
    (case pl_c10 => k_is)
    (case pl_k10 => k_is)
    (case pl_a11 => k_is)
    (case pl_l11 => k_is)
    (case pl_c11 => k_is)
    (case pl_k11 => k_is)
    (case pl_a12 => k_is)
    (case pl_l12 => k_is)
    (case pl_c12 => k_is)
    (case pl_k12 => k_is)
    (case pl_a13 => k_is)
    (case pl_l13 => k_is)
    (case pl_c13 => k_is)
    (case pl_k13 => k_is)
    (case pl_a14 => k_is)
    (case pl_l14 => k_is)
    (case pl_c14 => k_is)
    (case pl_k14 => k_is)
    (case pl_a15 => k_is)
    (case pl_l15 => k_is)
    (case pl_c15 => k_is)
    (case pl_k15 => k_is)
    (case pl_a16 => k_is)
    (case pl_l16 => k_is)
    (case pl_c16 => k_is)
    (case pl_k16 => k_is)
    (case pl_a17 => k_is)
    (case pl_l17 => k_is)
    (case pl_c17 => k_is)
    (case pl_k17 => k_is)
    (case pl_z0 => k_is)
    (case pl_z1 => k_is)
    (case pl_z2 => k_is)
    (case pl_z3 => k_is)
    (case pl_z4 => k_is)
    (case pl_z5 => k_is)
    (case pl_z6 => k_is)
    (case pl_z7 => k_is)
    (case pl_z8 => k_is)
    (case pl_z9 => k_is)
    (case pl_z10 => k_is)
    (case pl_z11 => k_is)
    (case pl_g0 => k_is)
    (case pl_g1 => k_is)
    (case pl_xa0 => k_is)
    (case pl_xe0 => k_exc)
    (case pl_xk0 => k_is)
    (case pl_xs0 => k_is)
    (case pl_xt0 => k_is)
    (case pl_xa1 => k_is)
    (case pl_xe1 => k_exc)
    (case pl_xk1 => k_is)
    (case pl_xs1 => k_is)
    (case pl_xt1 => k_is)
    (case pl_xa2 => k_is)
    (case pl_xe2 => k_exc)
    (case pl_xk2 => k_is)
    (case pl_xs2 => k_is)
    (case pl_xt2 => k_is)
