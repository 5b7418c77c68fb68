import PyProof.Rows.All
import Wide.All
import OpenK.AllK
import Wide.FinOn
import HandS.ForMost
import HandS.ForExc
import HandS.Wide
import HandS.WideBits
import HandS.WideMore
import HandS.IsInst
import HandS.CallSlots
import HandS.Rev
import HandS.TupAny
import HandS.Flow
import HandS.Defaults
import HandS.EndBits
import HandS.HotCalls
import HandS.ExcIs
import HandS.SuiteRaise
import PyProof.LongRange
import HandS.Deep
import HandS.Flt
import HandS.TryOnly
import HandS.Comp
import HandS.Conv
import HandS.SortInts
import HandS.TupLe
import KE.SortData
import KE.DataCmp
import HandS.TupMul
import PySem.Challenge.RW_leftnumbers_k68_refused_trees
set_option Elab.async false
set_option linter.all false
set_option maxRecDepth 100000
set_option autoImplicit false
namespace PL
open PySem PySem.Spec L2
open PyProof.Rows hiding St
/-- plain values -/
inductive PV where
  | non | bl (b : Bool) | int (i : Int) | str (s : Str)
  | tup (l : List PV) | lst (l : List PV) | frz (l : List PV) | dct
/-- what an evaluation comes to -/
inductive R (α : Type) where
  | ok (a : α) | exc (c : Str) | stuck
def R.bind {α β : Type} (x : R α) (k : α → R β) : R β := match x with
  | .ok a => k a | .exc c => .exc c | .stuck => .stuck
theorem R.bind_ok {α β : Type} (a : α) (k : α → R β) : (R.ok a).bind k = k a := rfl
/-- a slot: nothing yet; a value that may be shared; a list that this def made and nobody else holds -/
inductive Slot where
  | un | val (p : PV) | own (l : List PV) | ex (a : Addr)
abbrev Rho := List Slot
/-- a written tuple -/
def KT (K : PySem.W.Frag) (a : Addr) (xs : List V) : Prop :=
  ∃ (o : Obj) (its : Array Value) (n : Nat), K.lookup a = some o ∧ o.cls = .type "tuple" ∧ o.data = .seq its n ∧ its.size ≤ sizeLine ∧ Vals xs its.toList
mutual
inductive Rep (K : PySem.W.Frag) (H : Hp) (O : Addr → Prop) : V → PV → Prop
  | non : Rep K H O .non .non
  | bl (b : Bool) : Rep K H O (.bl b) (.bl b)
  | int (i : Int) : Rep K H O (.int i) (.int i)
  | str (x : Str) : Rep K H O (.str x) (.str x)
  | lst {a : Addr} {xs : List V} {ps : List PV} : H a = some (.lst xs) → ¬ O a → Reps K H O xs ps → Rep K H O (.ref a) (.lst ps)
  | tup {a : Addr} {xs : List V} {ps : List PV} : (H a = some (.tup xs) ∧ ¬ O a ∨ KT K a xs) → Reps K H O xs ps → Rep K H O (.ref a) (.tup ps)
  | frz {a : Addr} {ns : List Int} : ((∃ o, H a = some (.frz o (.lst (ns.map V.int)))) ∧ ¬ O a ∨ ((∀ H', SqL K H' a (ns.map V.int)))) → Rep K H O (.ref a) (.frz (ns.map PV.int))
  | dct {a : Addr} {kvs : List (L2.Key × V)} : H a = some (.dK kvs) → ¬ O a → Rep K H O (.ref a) .dct
inductive Reps (K : PySem.W.Frag) (H : Hp) (O : Addr → Prop) : List V → List PV → Prop
  | nil : Reps K H O [] []
  | cons {v : V} {vs : List V} {p : PV} {ps : List PV} : Rep K H O v p → Reps K H O vs ps → Reps K H O (v :: vs) (p :: ps)
end
section
variable {K : PySem.W.Frag} {H H' : Hp} {O O' : Addr → Prop}
mutual
theorem Rep.mono (hk : ∀ a o, H a = some o → ¬ O a → H' a = some o ∧ ¬ O' a) : ∀ {v : V} {p : PV}, Rep K H O v p → Rep K H' O' v p
  | _, _, .non => .non
  | _, _, .bl b => .bl b
  | _, _, .int i => .int i
  | _, _, .str x => .str x
  | _, _, .lst h n r => .lst (hk _ _ h n).1 (hk _ _ h n).2 (Reps.mono hk r)
  | _, _, .tup (.inl ⟨h, n⟩) r => .tup (.inl ⟨(hk _ _ h n).1, (hk _ _ h n).2⟩) (Reps.mono hk r)
  | _, _, .tup (.inr h) r => .tup (.inr h) (Reps.mono hk r)
  | _, _, .frz (.inl ⟨⟨o, h⟩, n⟩) => .frz (.inl ⟨⟨o, (hk _ _ h n).1⟩, (hk _ _ h n).2⟩)
  | _, _, .frz (.inr h) => .frz (.inr h)
  | _, _, .dct h n => .dct (hk _ _ h n).1 (hk _ _ h n).2
theorem Reps.mono (hk : ∀ a o, H a = some o → ¬ O a → H' a = some o ∧ ¬ O' a) : ∀ {v : List V} {p : List PV}, Reps K H O v p → Reps K H' O' v p
  | _, _, .nil => .nil
  | _, _, .cons h r => .cons (Rep.mono hk h) (Reps.mono hk r)
end
theorem Rep.same {v : V} {p : PV} (s : Same H H') (r : Rep K H O v p) : Rep K H' O v p := r.mono fun a o h n => ⟨s a o h, n⟩
theorem Reps.same {v : List V} {p : List PV} (s : Same H H') (r : Reps K H O v p) : Reps K H' O v p := r.mono fun a o h n => ⟨s a o h, n⟩
theorem Rep.less {v : V} {p : PV} (s : ∀ a, O' a → O a) (r : Rep K H O v p) : Rep K H O' v p := r.mono fun a o h n => ⟨h, fun z => n (s a z)⟩
theorem Reps.less {v : List V} {p : List PV} (s : ∀ a, O' a → O a) (r : Reps K H O v p) : Reps K H O' v p := r.mono fun a o h n => ⟨h, fun z => n (s a z)⟩
theorem Reps.length : ∀ {vs : List V} {ps : List PV}, Reps K H O vs ps → vs.length = ps.length
  | _, _, .nil => rfl
  | _, _, .cons _ r => by rw [List.length_cons, List.length_cons, Reps.length r]
theorem Reps.get : ∀ {vs : List V} {ps : List PV} {i : Nat} {p : PV}, Reps K H O vs ps → ps[i]? = some p → ∃ v, vs[i]? = some v ∧ Rep K H O v p
  | _, _, 0, _, .cons h _, e => ⟨_, rfl, by simp at e; exact e ▸ h⟩
  | _, _, i + 1, p, .cons _ r, e => by
    obtain ⟨v, h1, h2⟩ := Reps.get (i := i) (p := p) r (by simpa using e)
    exact ⟨v, by simpa using h1, h2⟩
theorem Reps.get' : ∀ {vs : List V} {ps : List PV} {i : Nat} {v : V}, Reps K H O vs ps → vs[i]? = some v → ∃ p, ps[i]? = some p ∧ Rep K H O v p
  | _, _, 0, _, .cons h _, e => ⟨_, rfl, by simp at e; exact e ▸ h⟩
  | _, _, i + 1, v, .cons _ r, e => by
    obtain ⟨p, h1, h2⟩ := Reps.get' (i := i) (v := v) r (by simpa using e)
    exact ⟨p, by simpa using h1, h2⟩
theorem Reps.append : ∀ {vs ws : List V} {ps qs : List PV}, Reps K H O vs ps → Reps K H O ws qs → Reps K H O (vs ++ ws) (ps ++ qs)
  | _, _, _, _, .nil, s => s
  | _, _, _, _, .cons h r, s => .cons h (Reps.append r s)
theorem Reps.take : ∀ {vs : List V} {ps : List PV} (n : Nat), Reps K H O vs ps → Reps K H O (vs.take n) (ps.take n)
  | _, _, 0, _ => .nil
  | _, _, _ + 1, .nil => .nil
  | _, _, n + 1, .cons h r => .cons h (Reps.take n r)
theorem Reps.drop : ∀ {vs : List V} {ps : List PV} (n : Nat), Reps K H O vs ps → Reps K H O (vs.drop n) (ps.drop n)
  | _, _, 0, r => r
  | _, _, _ + 1, .nil => .nil
  | _, _, n + 1, .cons _ r => Reps.drop n r
theorem Reps.set {v : V} {p : PV} (h : Rep K H O v p) : ∀ {vs : List V} {ps : List PV} (n : Nat), Reps K H O vs ps → Reps K H O (vs.set n v) (ps.set n p)
  | _, _, _, .nil => .nil
  | _, _, 0, .cons _ r => .cons h r
  | _, _, n + 1, .cons q r => .cons q (Reps.set h n r)
theorem Reps.reverse {vs : List V} {ps : List PV} (h : Reps K H O vs ps) : Reps K H O vs.reverse ps.reverse := by
  induction vs generalizing ps with
  | nil => cases h; exact .nil
  | cons v vs ih => cases h with
    | cons a r => rw [List.reverse_cons, List.reverse_cons]; exact (ih r).append (.cons a .nil)
theorem Reps.dropLast {vs : List V} {ps : List PV} (h : Reps K H O vs ps) : Reps K H O vs.dropLast ps.dropLast := by
  rw [List.dropLast_eq_take, List.dropLast_eq_take, h.length]; exact h.take _
theorem Reps.ints : ∀ {ns : List Int} {vs : List V}, Reps K H O vs (ns.map PV.int) → vs = ns.map V.int
  | [], _, .nil => rfl
  | n :: ns, _, .cons h r => by cases h; rw [Reps.ints r]; rfl
theorem Reps.ofInts : ∀ (ns : List Int), Reps K H O (ns.map V.int) (ns.map PV.int)
  | [] => .nil
  | n :: ns => .cons (.int n) (Reps.ofInts ns)
theorem Reps.bls : ∀ {ns : List Bool} {vs : List V}, Reps K H O vs (ns.map PV.bl) → vs = ns.map V.bl
  | [], _, .nil => rfl
  | n :: ns, _, .cons h r => by cases h; rw [Reps.bls r]; rfl
end
/-- the addresses that nobody else may hold: those from outside, those of the slots -/
def OO (O0 : Addr → Prop) (σ : St) (ρ : Rho) : Addr → Prop := fun a => O0 a ∨ ∃ (i : Nat) (ps : List PV), ρ[i]? = some (.own ps) ∧ σ[i]? = some (some (.ref a))
structure StR (K : PySem.W.Frag) (H0 : Hp) (O0 : Addr → Prop) (H : Hp) (σ : St) (ρ : Rho) : Prop where
  len : σ.length = ρ.length
  same : Same H0 H
  all0 : ∀ a, O0 a → H a ≠ none
  own : ∀ (i : Nat) (ps : List PV), ρ[i]? = some (.own ps) → ∃ (a : Addr) (vs : List V), σ[i]? = some (some (.ref a)) ∧ H a = some (.lst vs) ∧ H0 a = none ∧ ¬ O0 a ∧ Reps K H (OO O0 σ ρ) vs ps
  dis : ∀ (i j : Nat) (a : Addr) (ps qs : List PV), ρ[i]? = some (.own ps) → ρ[j]? = some (.own qs) → σ[i]? = some (some (.ref a)) → σ[j]? = some (some (.ref a)) → i = j
  val : ∀ (i : Nat) (p : PV), ρ[i]? = some (.val p) → ∃ (v : V), σ[i]? = some (some v) ∧ Rep K H (OO O0 σ ρ) v p
  exs : ∀ (i : Nat) (a : Addr), ρ[i]? = some (.ex a) → σ[i]? = some (some (.ref a))
theorem exs_set {σ : St} {ρ : Rho} (hl : σ.length = ρ.length) (h : ∀ (i : Nat) (a : Addr), ρ[i]? = some (.ex a) → σ[i]? = some (some (.ref a))) {i : Nat} {v : Option V} {s : Slot} (hs : ∀ a, s = .ex a → v = some (.ref a)) : ∀ (j : Nat) (a : Addr), (ρ.set i s)[j]? = some (.ex a) → (σ.set i v)[j]? = some (some (.ref a)) := fun j a e => by
  by_cases q : i = j
  · subst q
    by_cases hi : i < ρ.length
    · rw [List.getElem?_set_self hi] at e
      rw [List.getElem?_set_self (by rw [hl]; exact hi), hs a (Option.some.inj e)]
    · rw [List.getElem?_eq_none (by rw [List.length_set]; omega)] at e; cases e
  · rw [List.getElem?_set_ne q] at e ⊢
    exact h j a e
theorem exs_setR {σ : St} {ρ : Rho} (h : ∀ (i : Nat) (a : Addr), ρ[i]? = some (.ex a) → σ[i]? = some (some (.ref a))) {i : Nat} {s : Slot} (hs : ∀ a, s ≠ .ex a) : ∀ (j : Nat) (a : Addr), (ρ.set i s)[j]? = some (.ex a) → σ[j]? = some (some (.ref a)) := fun j a e => by
  by_cases q : i = j
  · subst q
    by_cases hi : i < ρ.length
    · rw [List.getElem?_set_self hi] at e
      exact absurd (Option.some.inj e) (hs a)
    · rw [List.getElem?_eq_none (by rw [List.length_set]; omega)] at e; cases e
  · rw [List.getElem?_set_ne q] at e
    exact h j a e
section
variable {K : PySem.W.Frag} {H0 H H' : Hp} {O0 : Addr → Prop} {σ : St} {ρ : Rho}
theorem StR.there (S : StR K H0 O0 H σ ρ) {a : Addr} (h : OO O0 σ ρ a) : H a ≠ none := by
  rcases h with h | ⟨i, ps, h1, h2⟩
  · exact S.all0 a h
  · obtain ⟨b, vs, e1, e2, _⟩ := S.own i ps h1
    rw [h2] at e1; cases e1
    rw [e2]; exact fun z => nomatch z
theorem StR.step (S : StR K H0 O0 H σ ρ) (s : Same H H') : StR K H0 O0 H' σ ρ :=
  ⟨S.len, S.same.trans s, fun a h z => S.all0 a h (s.free z), fun i ps h => let ⟨a, vs, e1, e2, e3, e5, e4⟩ := S.own i ps h; ⟨a, vs, e1, s _ _ e2, e3, e5, e4.same s⟩, S.dis, fun i p h => let ⟨v, e1, e2⟩ := S.val i p h; ⟨v, e1, e2.same s⟩, S.exs⟩
theorem OO.set_val {i : Nat} {v : Option V} {s : Slot} (hs : ∀ ps, s ≠ .own ps) {a : Addr} (h : OO O0 (σ.set i v) (ρ.set i s) a) : OO O0 σ ρ a := by
  rcases h with h | ⟨j, ps, h1, h2⟩
  · exact .inl h
  · by_cases e : i = j
    · subst e
      by_cases hl : i < ρ.length
      · rw [List.getElem?_set_self hl] at h1; exact absurd (Option.some.inj h1) (hs ps)
      · rw [List.getElem?_eq_none (by rw [List.length_set]; omega)] at h1; cases h1
    · rw [List.getElem?_set_ne e] at h1 h2
      exact .inr ⟨j, ps, h1, h2⟩
/-- a slot is set to a shared value (or emptied) -/
theorem StR.set (S : StR K H0 O0 H σ ρ) {i : Nat} {v : Option V} {s : Slot} (hs : ∀ ps, s ≠ .own ps) (hv : ∀ p, s = .val p → ∃ w, v = some w ∧ Rep K H (OO O0 σ ρ) w p) (hx : ∀ a, s = .ex a → v = some (.ref a) := by intro _ z; cases z) : StR K H0 O0 H (σ.set i v) (ρ.set i s) := by
  have less : ∀ a, OO O0 (σ.set i v) (ρ.set i s) a → OO O0 σ ρ a := fun a h => OO.set_val hs h
  refine ⟨by rw [List.length_set, List.length_set, S.len], S.same, S.all0, fun j ps h => ?_, fun j k a ps qs h1 h2 h3 h4 => ?_, fun j p h => ?_, exs_set S.len S.exs hx⟩
  · by_cases e : i = j
    · subst e
      by_cases hl : i < ρ.length
      · rw [List.getElem?_set_self hl] at h; exact absurd (Option.some.inj h) (hs ps)
      · rw [List.getElem?_eq_none (by rw [List.length_set]; omega)] at h; cases h
    · rw [List.getElem?_set_ne e] at h
      obtain ⟨a, vs, e1, e2, e3, e5, e4⟩ := S.own j ps h
      exact ⟨a, vs, by rw [List.getElem?_set_ne e]; exact e1, e2, e3, e5, e4.less less⟩
  · have go : ∀ {j : Nat} {ps : List PV}, (ρ.set i s)[j]? = some (.own ps) → i ≠ j := fun {j ps} h e => by
      subst e
      by_cases hl : i < ρ.length
      · rw [List.getElem?_set_self hl] at h; exact absurd (Option.some.inj h) (hs ps)
      · rw [List.getElem?_eq_none (by rw [List.length_set]; omega)] at h; cases h
    have e1 := go h1
    have e2 := go h2
    rw [List.getElem?_set_ne e1] at h1 h3
    rw [List.getElem?_set_ne e2] at h2 h4
    exact S.dis j k a ps qs h1 h2 h3 h4
  · by_cases e : i = j
    · subst e
      by_cases hl : i < ρ.length
      · rw [List.getElem?_set_self hl] at h
        obtain ⟨w, e1, e2⟩ := hv p (Option.some.inj h)
        exact ⟨w, by rw [List.getElem?_set_self (by rw [S.len]; exact hl), e1], e2.less less⟩
      · rw [List.getElem?_eq_none (by rw [List.length_set]; omega)] at h; cases h
    · rw [List.getElem?_set_ne e] at h
      obtain ⟨w, e1, e2⟩ := S.val j p h
      exact ⟨w, by rw [List.getElem?_set_ne e]; exact e1, e2.less less⟩
/-- a slot is set to a list that is new -/
theorem StR.setOwn (S : StR K H0 O0 H σ ρ) (s : Same H H') {i : Nat} {a : Addr} {vs : List V} {ps : List PV} (hn : H a = none) (ha : H' a = some (.lst vs)) (hr : Reps K H' (fun b => OO O0 σ ρ b ∨ b = a) vs ps) :
    StR K H0 O0 H' (σ.set i (some (.ref a))) (ρ.set i (.own ps)) := by
  have less : ∀ b, OO O0 (σ.set i (some (.ref a))) (ρ.set i (.own ps)) b → OO O0 σ ρ b ∨ b = a := fun b h => by
    rcases h with h | ⟨j, qs, h1, h2⟩
    · exact .inl (.inl h)
    · by_cases e : i = j
      · subst e
        by_cases hl : i < σ.length
        · rw [List.getElem?_set_self hl] at h2; cases h2; exact .inr rfl
        · rw [List.getElem?_eq_none (by rw [List.length_set]; omega)] at h2; cases h2
      · rw [List.getElem?_set_ne e] at h1 h2
        exact .inl (.inr ⟨j, qs, h1, h2⟩)
  have h0 : H0 a = none := S.same.free hn
  have nota : ∀ {b : Addr} {o : HO}, H b = some o → b ≠ a := fun hb z => by rw [z, hn] at hb; cases hb
  have keep : ∀ {v : V} {p : PV}, Rep K H (OO O0 σ ρ) v p → Rep K H' (OO O0 (σ.set i (some (.ref a))) (ρ.set i (.own ps))) v p := fun r => r.mono fun b o hb nb => ⟨s b o hb, fun z => (less b z).elim nb (nota hb)⟩
  have keeps : ∀ {v : List V} {p : List PV}, Reps K H (OO O0 σ ρ) v p → Reps K H' (OO O0 (σ.set i (some (.ref a))) (ρ.set i (.own ps))) v p := fun r => r.mono fun b o hb nb => ⟨s b o hb, fun z => (less b z).elim nb (nota hb)⟩
  refine ⟨by rw [List.length_set, List.length_set, S.len], S.same.trans s, fun a h z => S.all0 a h (s.free z), fun j qs h => ?_, fun j k b qs rs h1 h2 h3 h4 => ?_, fun j p h => ?_, exs_set S.len S.exs fun _ z => nomatch z⟩
  · by_cases e : i = j
    · subst e
      by_cases hl : i < ρ.length
      · rw [List.getElem?_set_self hl] at h; cases h
        exact ⟨a, vs, by rw [List.getElem?_set_self (by rw [S.len]; exact hl)], ha, h0, fun z => S.all0 a z hn, hr.less less⟩
      · rw [List.getElem?_eq_none (by rw [List.length_set]; omega)] at h; cases h
    · rw [List.getElem?_set_ne e] at h
      obtain ⟨b, ws, e1, e2, e3, e5, e4⟩ := S.own j qs h
      exact ⟨b, ws, by rw [List.getElem?_set_ne e]; exact e1, s _ _ e2, e3, e5, keeps e4⟩
  · have other : ∀ {j : Nat} {qs : List PV} {b : Addr}, i ≠ j → (ρ.set i (.own ps))[j]? = some (.own qs) → (σ.set i (some (.ref a)))[j]? = some (some (.ref b)) → b ≠ a := fun {j qs b} e h1 h3 z => by
      rw [List.getElem?_set_ne e] at h1 h3
      obtain ⟨c, ws, e1, e2, _⟩ := S.own j qs h1
      rw [h3] at e1; cases e1
      exact nota e2 z
    have self : ∀ {j : Nat} {b : Addr}, i = j → (σ.set i (some (.ref a)))[j]? = some (some (.ref b)) → b = a := fun {j b} e h3 => by
      subst e
      by_cases hl : i < σ.length
      · rw [List.getElem?_set_self hl] at h3; cases h3; rfl
      · rw [List.getElem?_eq_none (by rw [List.length_set]; omega)] at h3; cases h3
    by_cases e1 : i = j
    · by_cases e2 : i = k
      · exact e1.symm.trans e2
      · exact absurd (self e1 h3) (other e2 h2 h4)
    · by_cases e2 : i = k
      · exact absurd (self e2 h4) (other e1 h1 h3)
      · rw [List.getElem?_set_ne e1] at h1 h3
        rw [List.getElem?_set_ne e2] at h2 h4
        exact S.dis j k b qs rs h1 h2 h3 h4
  · by_cases e : i = j
    · subst e
      by_cases hl : i < ρ.length
      · rw [List.getElem?_set_self hl] at h; cases h
      · rw [List.getElem?_eq_none (by rw [List.length_set]; omega)] at h; cases h
    · rw [List.getElem?_set_ne e] at h
      obtain ⟨w, e1, e2⟩ := S.val j p h
      exact ⟨w, by rw [List.getElem?_set_ne e]; exact e1, keep e2⟩
/-- an owned list is changed -/
theorem StR.write (S : StR K H0 O0 H σ ρ) {i : Nat} {a : Addr} {ps qs : List PV} {ws : List V} (h1 : ρ[i]? = some (.own ps)) (h2 : σ[i]? = some (some (.ref a))) (hr : Reps K H (OO O0 σ ρ) ws qs) :
    StR K H0 O0 (upd H a (.lst ws)) σ (ρ.set i (.own qs)) := by
  have hi : i < ρ.length := (List.getElem?_eq_some_iff.mp h1).1
  have oeq : ∀ b, OO O0 σ (ρ.set i (.own qs)) b ↔ OO O0 σ ρ b := fun b => by
    constructor
    · rintro (h | ⟨j, rs, e1, e2⟩)
      · exact .inl h
      · by_cases e : i = j
        · subst e; exact .inr ⟨i, ps, h1, e2⟩
        · rw [List.getElem?_set_ne e] at e1; exact .inr ⟨j, rs, e1, e2⟩
    · rintro (h | ⟨j, rs, e1, e2⟩)
      · exact .inl h
      · by_cases e : i = j
        · subst e; exact .inr ⟨i, qs, List.getElem?_set_self hi, e2⟩
        · exact .inr ⟨j, rs, by rw [List.getElem?_set_ne e]; exact e1, e2⟩
  have hO : OO O0 σ ρ a := .inr ⟨i, ps, h1, h2⟩
  have hk : ∀ b o, H b = some o → ¬ OO O0 σ ρ b → upd H a (.lst ws) b = some o ∧ ¬ OO O0 σ (ρ.set i (.own qs)) b := fun b o hb nb =>
    ⟨by rw [upd_ne (fun z => nb (by rw [z]; exact hO))]; exact hb, fun z => nb ((oeq b).mp z)⟩
  obtain ⟨a', vs, e1, e2, e3, e5, _⟩ := S.own i ps h1
  rw [h2] at e1; cases e1
  refine ⟨by rw [List.length_set, S.len], fun b o hb => ?_, fun b hb => ?_, fun j rs h => ?_, fun j k b rs ts g1 g2 g3 g4 => ?_, fun j p h => ?_, exs_setR S.exs fun _ z => nomatch z⟩
  · rw [upd_ne (fun z => by rw [z, e3] at hb; cases hb)]; exact S.same b o hb
  · by_cases e : b = a
    · rw [e, upd_same]; exact fun z => nomatch z
    · rw [upd_ne e]; exact S.all0 b hb
  · by_cases e : i = j
    · subst e
      rw [List.getElem?_set_self hi] at h; cases h
      exact ⟨a, ws, h2, upd_same, e3, e5, hr.mono hk⟩
    · rw [List.getElem?_set_ne e] at h
      obtain ⟨b, us, f1, f2, f3, f5, f4⟩ := S.own j rs h
      exact ⟨b, us, f1, by rw [upd_ne (fun z => e (S.dis i j a ps rs h1 h h2 (by rw [← z]; exact f1)))]; exact f2, f3, f5, f4.mono hk⟩
  · have go : ∀ {j : Nat} {rs : List PV}, (ρ.set i (.own qs))[j]? = some (.own rs) → ∃ rs', ρ[j]? = some (.own rs') := fun {j rs} h => by
      by_cases e : i = j
      · subst e; exact ⟨_, h1⟩
      · rw [List.getElem?_set_ne e] at h; exact ⟨_, h⟩
    obtain ⟨_, f1⟩ := go g1
    obtain ⟨_, f2⟩ := go g2
    exact S.dis j k b _ _ f1 f2 g3 g4
  · by_cases e : i = j
    · subst e
      rw [List.getElem?_set_self hi] at h; cases h
    · rw [List.getElem?_set_ne e] at h
      obtain ⟨w, f1, f2⟩ := S.val j p h
      exact ⟨w, f1, f2.mono hk⟩
/-- an owned list is let go: it is shared from now on -/
theorem StR.freeze (S : StR K H0 O0 H σ ρ) {i : Nat} {ps : List PV} (h1 : ρ[i]? = some (.own ps)) : StR K H0 O0 H σ (ρ.set i (.val (.lst ps))) := by
  have hi : i < ρ.length := (List.getElem?_eq_some_iff.mp h1).1
  obtain ⟨a, vs, e1, e2, e3, e5, e4⟩ := S.own i ps h1
  have hs : σ.set i (some (.ref a)) = σ := by
    refine List.ext_getElem? fun j => ?_
    by_cases e : i = j
    · subst e; rw [List.getElem?_set_self (by rw [S.len]; exact hi), e1]
    · rw [List.getElem?_set_ne e]
  have less : ∀ b, OO O0 σ (ρ.set i (.val (.lst ps))) b → OO O0 σ ρ b := fun b h => by
    rw [← hs] at h
    exact OO.set_val (fun _ z => Slot.noConfusion z) h
  have na : ¬ OO O0 σ (ρ.set i (.val (.lst ps))) a := by
    rintro (h | ⟨j, rs, f1, f2⟩)
    · exact e5 h
    · by_cases e : i = j
      · subst e
        rw [List.getElem?_set_self hi] at f1; cases f1
      · rw [List.getElem?_set_ne e] at f1
        exact e (S.dis i j a ps rs h1 f1 e1 f2)
  refine ⟨by rw [List.length_set, S.len], S.same, S.all0, fun j rs h => ?_, fun j k b rs ts g1 g2 g3 g4 => ?_, fun j p h => ?_, exs_setR S.exs fun _ z => nomatch z⟩
  · by_cases e : i = j
    · subst e
      rw [List.getElem?_set_self hi] at h; cases h
    · rw [List.getElem?_set_ne e] at h
      obtain ⟨b, us, f1, f2, f3, f5, f4⟩ := S.own j rs h
      exact ⟨b, us, f1, f2, f3, f5, f4.less less⟩
  · have go : ∀ {j : Nat} {rs : List PV}, (ρ.set i (.val (.lst ps)))[j]? = some (.own rs) → ρ[j]? = some (.own rs) := fun {j rs} h => by
      by_cases e : i = j
      · subst e; rw [List.getElem?_set_self hi] at h; cases h
      · rw [List.getElem?_set_ne e] at h; exact h
    exact S.dis j k b _ _ (go g1) (go g2) g3 g4
  · by_cases e : i = j
    · subst e
      rw [List.getElem?_set_self hi] at h; cases h
      exact ⟨.ref a, e1, .lst e2 na (e4.less less)⟩
    · rw [List.getElem?_set_ne e] at h
      obtain ⟨w, f1, f2⟩ := S.val j p h
      exact ⟨w, f1, f2.less less⟩
end
end PL
set_option Elab.async false
set_option linter.all false
set_option maxRecDepth 100000
set_option autoImplicit false
namespace PL
open PySem PySem.Spec L2
open PyProof.Rows hiding St
/-- how a result stands: s: apart from the owned lists; t: it may be an owned list itself; f: a list that is new; w: apart from the outer addresses alone -/
inductive Md where
  | s | t | f | w
def RepM (K : PySem.W.Frag) (O0 : Addr → Prop) (σ : St) (ρ : Rho) : Md → Hp → Hp → V → PV → Prop
  | .s, _, H', v, p => Rep K H' (OO O0 σ ρ) v p
  | .t, _, H', v, p => Rep K H' (OO O0 σ ρ) v p ∨ ∃ a vs ps, v = .ref a ∧ p = .lst ps ∧ H' a = some (.lst vs) ∧ Reps K H' (OO O0 σ ρ) vs ps
  | .f, H, H', v, p => ∃ a vs ps, v = .ref a ∧ p = .lst ps ∧ H a = none ∧ H' a = some (.lst vs) ∧ Reps K H' (fun b => OO O0 σ ρ b ∨ b = a) vs ps
  | .w, _, H', v, p => Rep K H' O0 v p
section
variable {K : PySem.W.Frag} {H0 H H1 H2 : Hp} {O0 : Addr → Prop} {σ : St} {ρ : Rho} {v : V} {p : PV} {m : Md}
theorem RepM.step (r : RepM K O0 σ ρ m H H1 v p) (s : Same H1 H2) : RepM K O0 σ ρ m H H2 v p := by
  cases m with
  | s => exact Rep.same s r
  | t =>
    rcases r with r | ⟨a, vs, ps, e1, e2, e3, e4⟩
    · exact .inl (r.same s)
    · exact .inr ⟨a, vs, ps, e1, e2, s _ _ e3, e4.same s⟩
  | f => obtain ⟨a, vs, ps, e1, e2, e3, e4, e5⟩ := r; exact ⟨a, vs, ps, e1, e2, e3, s _ _ e4, e5.same s⟩
  | w => exact Rep.same s r
theorem RepM.back (s : Same H H1) (r : RepM K O0 σ ρ m H1 H2 v p) : RepM K O0 σ ρ m H H2 v p := by
  cases m with
  | s => exact r
  | t => exact r
  | f => obtain ⟨a, vs, ps, e1, e2, e3, e4, e5⟩ := r; exact ⟨a, vs, ps, e1, e2, s.free e3, e4, e5⟩
  | w => exact r
theorem RepM.f_s (S : StR K H0 O0 H σ ρ) (r : RepM K O0 σ ρ .f H H1 v p) : RepM K O0 σ ρ .s H H1 v p := by
  obtain ⟨a, vs, ps, rfl, rfl, e3, e4, e5⟩ := r
  exact .lst e4 (fun z => S.there z e3) (e5.less fun _ z => .inl z)
theorem RepM.s_w (r : RepM K O0 σ ρ .s H H1 v p) : RepM K O0 σ ρ .w H H1 v p := Rep.less (fun _ z => .inl z) r
theorem RepM.s_t (r : RepM K O0 σ ρ .s H H1 v p) : RepM K O0 σ ρ .t H H1 v p := .inl r
end
/-- what an expression's end must bring -/
def Got (K : PySem.W.Frag) (mg : Str → Option Value) (W : WX) (O0 : Addr → Prop) (σ : St) (ρ : Rho) (m : Md) (H : Hp) (Q : VK) : R PV → Prop
  | .ok p => ∀ v H', Same H H' → RepM K O0 σ ρ m H H' v p → Q v H'
  | .exc c => ∀ C H', Same H H' → mg c = some (.ref C) → W (.ref C) none σ H'
  | .stuck => False
def GotT (mg : Str → Option Value) (W : WX) (σ : St) (H : Hp) (Q : Bool → Hp → Prop) : R Bool → Prop
  | .ok b => ∀ H', Same H H' → Q b H'
  | .exc c => ∀ C H', Same H H' → mg c = some (.ref C) → W (.ref C) none σ H'
  | .stuck => False
def GotA (K : PySem.W.Frag) (mg : Str → Option Value) (W : WX) (O0 : Addr → Prop) (σ : St) (ρ : Rho) (m : Md) (H : Hp) (Q : List V → Hp → Prop) : R (List PV) → Prop
  | .ok ps => ∀ vs H', Same H H' → Paired (RepM K O0 σ ρ m H H') vs ps → Q vs H'
  | .exc c => ∀ C H', Same H H' → mg c = some (.ref C) → W (.ref C) none σ H'
  | .stuck => False
def tE (K : PySem.W.Frag) (mg : Str → Option Value) (W : WX) (m : Md) (f : Rho → R PV) : TE := fun σ H Q =>
  ∃ H0 O0 ρ, StR K H0 O0 H σ ρ ∧ Got K mg W O0 σ ρ m H Q (f ρ)
def tT (K : PySem.W.Frag) (mg : Str → Option Value) (W : WX) (f : Rho → R Bool) : TT := fun σ H Q =>
  ∃ H0 O0 ρ, StR K H0 O0 H σ ρ ∧ GotT mg W σ H Q (f ρ)
def tA (K : PySem.W.Frag) (mg : Str → Option Value) (W : WX) (m : Md) (f : Rho → R (List PV)) : TA := fun σ H Q =>
  ∃ H0 O0 ρ, StR K H0 O0 H σ ρ ∧ GotA K mg W O0 σ ρ m H Q (f ρ)
abbrev EJ (X : Cx) (W : WX) (m : Md) (e : Expr) (f : Rho → R PV) : Prop := PE X e (tE X.K X.mg W m f)
abbrev TJ (X : Cx) (W : WX) (e : Expr) (f : Rho → R Bool) : Prop := PT X e (tT X.K X.mg W f)
abbrev AJ (X : Cx) (W : WX) (m : Md) (es : List Expr) (f : Rho → R (List PV)) : Prop := PA X es (tA X.K X.mg W m f)
section
variable {X : Cx} {e a b : Expr} {pos : Pos}
theorem pe_imp {t t' : TE} (h : PE X e t) (q : ∀ σ H Q, t' σ H Q → t σ H Q) : PE X e t' := ⟨fun pins s σ H Q I hw => h.run pins s σ H Q I (q σ H Q hw)⟩
theorem pt_imp {t t' : TT} (h : PT X e t) (q : ∀ σ H Q, t' σ H Q → t σ H Q) : PT X e t' := ⟨fun pins s σ H Q I hw => h.run pins s σ H Q I (q σ H Q hw)⟩
theorem pw_imp {t t' : TT} (h : PW X e t) (q : ∀ σ H Q, t' σ H Q → t σ H Q) : PW X e t' := ⟨fun wh pins s σ H Q I hw => h.run wh pins s σ H Q I (q σ H Q hw)⟩
theorem pa_imp {es : List Expr} {t t' : TA} (h : PA X es t) (q : ∀ σ H Q, t' σ H Q → t σ H Q) : PA X es t' := ⟨fun pos pins s σ H Q I hw => h.run pos pins s σ H Q I (q σ H Q hw)⟩
end
section
variable {K : PySem.W.Frag} {mg : Str → Option Value} {W : WX} {H0 H H1 H2 : Hp} {O0 : Addr → Prop} {σ : St} {ρ : Rho} {m m1 m2 : Md}
/-- from a later heap -/
theorem Got.later {x : R PV} {Q : VK} (s : Same H H1) (h : Got K mg W O0 σ ρ m H Q x) : Got K mg W O0 σ ρ m H1 Q x := by
  cases x with
  | ok p => exact fun v H' s' r => h v H' (s.trans s') (r.back s)
  | exc c => exact fun C H' s' e => h C H' (s.trans s') e
  | stuck => exact h
theorem GotT.later {x : R Bool} {Q : Bool → Hp → Prop} (s : Same H H1) (h : GotT mg W σ H Q x) : GotT mg W σ H1 Q x := by
  cases x with
  | ok p => exact fun H' s' => h H' (s.trans s')
  | exc c => exact fun C H' s' e => h C H' (s.trans s') e
  | stuck => exact h
end
def eC (p : PV) : Rho → R PV := fun _ => .ok p
def eV (i : Nat) : Rho → R PV := fun ρ => match ρ[i]? with
  | some (.val p) => .ok p
  | _ => .stuck
def eVo (i : Nat) : Rho → R PV := fun ρ => match ρ[i]? with
  | some (.val p) => .ok p
  | some (.own ps) => .ok (.lst ps)
  | _ => .stuck
section
variable {X : Cx} {W : WX} {e a b c : Expr} {pos : Pos} {m m1 m2 m3 : Md} {f g h : Rho → R PV}
theorem e_const {v : V} {p : PV} (hp : PE X e (tC v)) (hr : ∀ K H O, Rep K H O v p) : EJ X W .s e (eC p) := by
  refine pe_imp hp fun σ H Q ⟨H0, O0, ρ, S, G⟩ => ?_
  exact G v H (Same.refl H) (hr _ _ _)
theorem e_int {i : Int} {j : Nat} : EJ X W .s (.Constant (.int i) j pos) (eC (.int i)) := e_const pe_int fun _ _ _ => .int i
theorem e_bl {k : Bool} {j : Nat} : EJ X W .s (.Constant (.bool k) j pos) (eC (.bl k)) := e_const pe_bl fun _ _ _ => .bl k
theorem e_non {j : Nat} : EJ X W .s (.Constant .none j pos) (eC .non) := e_const pe_non fun _ _ _ => .non
theorem e_str {x : Str} {j : Nat} : EJ X W .s (.Constant (.str x) j pos) (eC (.str x)) := e_const pe_str fun _ _ _ => .str x
theorem e_s_w (h : EJ X W .s e f) : EJ X W .w e f := by
  refine pe_imp h fun σ H Q ⟨H0, O0, ρ, S, G⟩ => ⟨H0, O0, ρ, S, ?_⟩
  revert G
  cases f ρ with
  | ok p => exact fun G v H' s r => G v H' s (RepM.s_w (H := H) r)
  | exc c => exact id
  | stuck => exact id
theorem e_s_t (h : EJ X W .s e f) : EJ X W .t e f := by
  refine pe_imp h fun σ H Q ⟨H0, O0, ρ, S, G⟩ => ⟨H0, O0, ρ, S, ?_⟩
  revert G
  cases f ρ with
  | ok p => exact fun G v H' s r => G v H' s (RepM.s_t (H := H) r)
  | exc c => exact id
  | stuck => exact id
theorem e_f_s (h : EJ X W .f e f) : EJ X W .s e f := by
  refine pe_imp h fun σ H Q ⟨H0, O0, ρ, S, G⟩ => ⟨H0, O0, ρ, S, ?_⟩
  revert G
  cases f ρ with
  | ok p => exact fun G v H' s r => G v H' s (RepM.f_s S r)
  | exc c => exact id
  | stuck => exact id
theorem e_f_t (h : EJ X W .f e f) : EJ X W .t e f := e_s_t (e_f_s h)
theorem eVar_get {K : PySem.W.Frag} {H0 H : Hp} {O0 : Addr → Prop} {σ : St} {ρ : Rho} (S : StR K H0 O0 H σ ρ) {i : Nat} {p : PV} (h : eV i ρ = .ok p) : ∃ v, σ[i]? = some (some v) ∧ Rep K H (OO O0 σ ρ) v p := by
  unfold eV at h
  split at h
  · rename_i q hq
    cases h
    exact S.val i _ hq
  · cases h
theorem e_var {i : Nat} (hp : PE X e (tVar i)) : EJ X W .s e (eV i) := by
  refine pe_imp hp fun σ H Q ⟨H0, O0, ρ, S, G⟩ => ?_
  revert G
  cases hv : eV i ρ with
  | ok p =>
    intro G
    obtain ⟨v, e1, e2⟩ := eVar_get S hv
    exact ⟨v, e1, G v H (Same.refl H) e2⟩
  | exc c => unfold eV at hv; split at hv <;> cases hv
  | stuck => exact False.elim
theorem eVo_get {K : PySem.W.Frag} {H0 H : Hp} {O0 : Addr → Prop} {σ : St} {ρ : Rho} (S : StR K H0 O0 H σ ρ) {i : Nat} {p : PV} (h : eVo i ρ = .ok p) : ∃ v, σ[i]? = some (some v) ∧ RepM K O0 σ ρ .t H H v p ∧ RepM K O0 σ ρ .w H H v p := by
  unfold eVo at h
  split at h
  · rename_i q hq
    cases h
    obtain ⟨v, e1, e2⟩ := S.val i _ hq
    exact ⟨v, e1, .inl e2, RepM.s_w (H := H) e2⟩
  · rename_i ps hq
    cases h
    obtain ⟨a, vs, e1, e2, e3, e5, e4⟩ := S.own i _ hq
    exact ⟨.ref a, e1, .inr ⟨a, vs, _, rfl, rfl, e2, e4⟩, .lst e2 e5 (e4.less fun _ z => .inl z)⟩
  · cases h
theorem eVo_noexc {i : Nat} {ρ : Rho} {c : Str} (h : eVo i ρ = .exc c) : False := by
  unfold eVo at h
  split at h <;> cases h
theorem e_varT {i : Nat} (hp : PE X e (tVar i)) : EJ X W .t e (eVo i) := by
  refine pe_imp hp fun σ H Q ⟨H0, O0, ρ, S, G⟩ => ?_
  revert G
  cases hv : eVo i ρ with
  | ok p =>
    intro G
    obtain ⟨v, e1, e2, _⟩ := eVo_get S hv
    exact ⟨v, e1, G v H (Same.refl H) e2⟩
  | exc c => exact (eVo_noexc hv).elim
  | stuck => exact False.elim
theorem e_varW {i : Nat} (hp : PE X e (tVar i)) : EJ X W .w e (eVo i) := by
  refine pe_imp hp fun σ H Q ⟨H0, O0, ρ, S, G⟩ => ?_
  revert G
  cases hv : eVo i ρ with
  | ok p =>
    intro G
    obtain ⟨v, e1, _, e2⟩ := eVo_get S hv
    exact ⟨v, e1, G v H (Same.refl H) e2⟩
  | exc c => exact (eVo_noexc hv).elim
  | stuck => exact False.elim
/-- what an operation's end must bring -/
def GotV (K : PySem.W.Frag) (O0 : Addr → Prop) (σ : St) (ρ : Rho) (m : Md) (H H2 : Hp) (Q : VK) : R PV → Prop
  | .ok p => ∀ v H', Same H2 H' → RepM K O0 σ ρ m H H' v p → Q v H'
  | _ => False
def OpS (K : PySem.W.Frag) (r : R2) (m1 m2 m : Md) (g : PV → PV → R PV) : Prop :=
  ∀ {H0 O0 σ ρ H H2 x y p q} {Q : VK}, StR K H0 O0 H σ ρ → Same H H2 → RepM K O0 σ ρ m1 H H2 x p → RepM K O0 σ ρ m2 H H2 y q → GotV K O0 σ ρ m H H2 Q (g p q) → r x y H2 Q
def UnS (K : PySem.W.Frag) (r : V → Hp → VK → Prop) (m1 m : Md) (g : PV → R PV) : Prop :=
  ∀ {H0 O0 σ ρ H H2 x p} {Q : VK}, StR K H0 O0 H σ ρ → Same H H2 → RepM K O0 σ ρ m1 H H2 x p → GotV K O0 σ ρ m H H2 Q (g p) → r x H2 Q
def CallS (K : PySem.W.Frag) (r : List V → Hp → VK → Prop) (m1 m : Md) (g : List PV → R PV) : Prop :=
  ∀ {H0 O0 σ ρ H H2 xs ps} {Q : VK}, StR K H0 O0 H σ ρ → Same H H2 → Paired (RepM K O0 σ ρ m1 H H2) xs ps → GotV K O0 σ ρ m H H2 Q (g ps) → r xs H2 Q
def e2 (g : PV → PV → R PV) (f1 f2 : Rho → R PV) : Rho → R PV := fun ρ => (f1 ρ).bind fun x => (f2 ρ).bind fun y => g x y
def e1 (g : PV → R PV) (f1 : Rho → R PV) : Rho → R PV := fun ρ => (f1 ρ).bind g
theorem Got.v {K : PySem.W.Frag} {mg : Str → Option Value} {O0 : Addr → Prop} {σ : St} {ρ : Rho} {H H2 : Hp} {Q : VK} {x : R PV} (hx : ∀ c, x ≠ .exc c) (s : Same H H2) (G : Got K mg W O0 σ ρ m H Q x) : GotV K O0 σ ρ m H H2 Q x := by
  cases x with
  | ok p => exact fun v H' s' r => G v H' (s.trans s') r
  | exc c => exact absurd rfl (hx c)
  | stuck => exact G
theorem t_op {r : R2} {g : PV → PV → R PV} (hg : ∀ p q c, g p q ≠ .exc c) (ho : OpS X.K r m1 m2 m g) : ∀ σ H Q, tE X.K X.mg W m (e2 g f h) σ H Q → tOp r (tE X.K X.mg W m1 f) (tE X.K X.mg W m2 h) σ H Q := by
  intro σ H Q ⟨H0, O0, ρ, S, G⟩
  refine ⟨H0, O0, ρ, S, ?_⟩
  revert G
  unfold e2
  cases f ρ with
  | stuck => exact False.elim
  | exc c => exact id
  | ok p =>
    intro G x H1 s1 r1
    refine ⟨H0, O0, ρ, S.step s1, ?_⟩
    revert G
    rw [R.bind_ok]
    cases h ρ with
    | stuck => exact False.elim
    | exc c => exact fun G C H' s' => G C H' (s1.trans s')
    | ok q =>
      intro G y H2 s2 r2
      exact ho S (s1.trans s2) (r1.step s2) (r2.back s1) (Got.v (hg p q) (s1.trans s2) G)
theorem e_op {op : Operator} {r : R2} {g : PV → PV → R PV} (hr : OpR X (binaryOp op) r) (hg : ∀ p q c, g p q ≠ .exc c) (ho : OpS X.K r m1 m2 m g) (ha : EJ X W m1 a f) (hb : EJ X W m2 b h) : EJ X W m (.BinOp a op b pos) (e2 g f h) :=
  pe_imp (pe_op hr ha hb) (t_op hg ho)
theorem e_cmp {op : CmpOp} {r : R2} {g : PV → PV → R PV} (hr : OpR X (compareOp op) r) (hg : ∀ p q c, g p q ≠ .exc c) (ho : OpS X.K r m1 m2 m g) (ha : EJ X W m1 a f) (hb : EJ X W m2 b h) (hm : behindInMarks op b = false) : EJ X W m (.Compare a [op] [b] pos) (e2 g f h) :=
  pe_imp (pe_cmpR hr ha hb hm) (t_op hg ho)
theorem e_ix {r : R2} {g : PV → PV → R PV} (hr : IxR X r) (hg : ∀ p q c, g p q ≠ .exc c) (ho : OpS X.K r m1 m2 m g) (ha : EJ X W m1 a f) (hb : EJ X W m2 b h) (hs : PlainIx b) : EJ X W m (.Subscript a b pos) (e2 g f h) :=
  pe_imp (pe_ix hr ha hb hs) (t_op hg ho)
theorem e_un {op : UnaryOp} {r : V → Hp → VK → Prop} {g : PV → R PV} (hr : UnR X (unaryOp op) r) (hg : ∀ p c, g p ≠ .exc c) (ho : UnS X.K r m1 m g) (ha : EJ X W m1 a f) : EJ X W m (.UnaryOp op a pos) (e1 g f) := by
  refine pe_imp (pe_un hr ha) fun σ H Q ⟨H0, O0, ρ, S, G⟩ => ⟨H0, O0, ρ, S, ?_⟩
  revert G
  unfold e1
  cases f ρ with
  | stuck => exact False.elim
  | exc c => exact id
  | ok p => exact fun G x H1 s1 r1 => ho S s1 r1 (Got.v (hg p) s1 G)
def asB : PV → R Bool
  | .bl b => .ok b
  | _ => .stuck
def tB1 (f : Rho → R PV) : Rho → R Bool := fun ρ => (f ρ).bind asB
theorem GotB {K : PySem.W.Frag} {mg : Str → Option Value} {O0 : Addr → Prop} {σ : St} {ρ : Rho} {H : Hp} {Q : Bool → Hp → Prop} {x : R PV} (G : GotT mg W σ H Q (x.bind asB)) : Got K mg W O0 σ ρ .s H (fun v H' => ∃ k, v = .bl k ∧ Q k H') x := by
  revert G
  cases x with
  | stuck => exact False.elim
  | exc c => exact id
  | ok p =>
    cases p with
    | bl b => exact fun G v H' s r => by cases r; exact ⟨b, rfl, G H' s⟩
    | _ => exact False.elim
theorem t_cmp {op : CmpOp} {r : R2} {g : PV → PV → R PV} (hr : OpR X (compareOp op) r) (hg : ∀ p q c, g p q ≠ .exc c) (ho : OpS X.K r m1 m2 .s g) (ha : EJ X W m1 a f) (hb : EJ X W m2 b h) (hm : behindInMarks op b = false) : TJ X W (.Compare a [op] [b] pos) (tB1 (e2 g f h)) := by
  refine pt_imp (pt_cmpR hr ha hb hm) fun σ H Q ⟨H0, O0, ρ, S, G⟩ => ?_
  exact t_op hg ho σ H _ ⟨H0, O0, ρ, S, GotB G⟩
/-- an expression of any other kind, worth a truth value -/
theorem t_val (ha : EJ X W .s e f) (he : ∀ whole, isTrue e X.env whole = (do let v ← whole; standAt e.pos; holding [v] (truthy v)) := by intro _; rfl) : TJ X W e (tB1 f) := by
  refine pt_imp (pt_val ha he) fun σ H Q ⟨H0, O0, ρ, S, G⟩ => ⟨H0, O0, ρ, S, GotB G⟩
variable {fT gT hT : Rho → R Bool}
def tNt (f : Rho → R Bool) : Rho → R Bool := fun ρ => (f ρ).bind fun b => .ok (!b)
def tAn (f g : Rho → R Bool) : Rho → R Bool := fun ρ => (f ρ).bind fun b => if b = true then g ρ else .ok false
def tOr' (f g : Rho → R Bool) : Rho → R Bool := fun ρ => (f ρ).bind fun b => if b = true then .ok true else g ρ
theorem t_not (ha : TJ X W a fT) : TJ X W (.UnaryOp .Not a pos) (tNt fT) := by
  refine pt_imp (pt_not ha) fun σ H Q ⟨H0, O0, ρ, S, G⟩ => ⟨H0, O0, ρ, S, ?_⟩
  revert G
  unfold tNt
  cases fT ρ with
  | stuck => exact False.elim
  | exc c => exact id
  | ok b => exact fun G H' s => G H' s
abbrev WJ (X : Cx) (W : WX) (e : Expr) (f : Rho → R Bool) : Prop := PW X e (tT X.K X.mg W f)
theorem t_w (h : WJ X W e fT) : TJ X W e fT := PW.pt h
variable {rest : List Expr}
theorem w_and1 (ha : TJ X W a fT) : WJ X W (.BoolOp .And [a] pos) fT := pw_and1 ha
theorem w_or1 (ha : TJ X W a fT) : WJ X W (.BoolOp .Or [a] pos) fT := pw_or1 ha
theorem w_and (ha : TJ X W a fT) (hb : WJ X W (.BoolOp .And (b :: rest) pos) gT) : WJ X W (.BoolOp .And (a :: b :: rest) pos) (tAn fT gT) := by
  refine pw_imp (pw_and ha hb) fun σ H Q ⟨H0, O0, ρ, S, G⟩ => ⟨H0, O0, ρ, S, ?_⟩
  revert G
  unfold tAn
  cases fT ρ with
  | stuck => exact False.elim
  | exc c => exact id
  | ok k =>
    intro G H1 s1
    cases k with
    | true => rw [if_pos rfl]; exact ⟨H0, O0, ρ, S.step s1, GotT.later s1 G⟩
    | false => rw [if_neg Bool.false_ne_true]; exact G H1 s1
theorem w_or (ha : TJ X W a fT) (hb : WJ X W (.BoolOp .Or (b :: rest) pos) gT) : WJ X W (.BoolOp .Or (a :: b :: rest) pos) (tOr' fT gT) := by
  refine pw_imp (pw_or ha hb) fun σ H Q ⟨H0, O0, ρ, S, G⟩ => ⟨H0, O0, ρ, S, ?_⟩
  revert G
  unfold tOr'
  cases fT ρ with
  | stuck => exact False.elim
  | exc c => exact id
  | ok k =>
    intro G H1 s1
    cases k with
    | false => rw [if_neg Bool.false_ne_true]; exact ⟨H0, O0, ρ, S.step s1, GotT.later s1 G⟩
    | true => rw [if_pos rfl]; exact G H1 s1
/-- and, or, not as values -/
def eAn (f g : Rho → R PV) : Rho → R PV := fun ρ => (f ρ).bind fun p => (asB p).bind fun b => if b = true then g ρ else .ok (.bl false)
def eOr (f g : Rho → R PV) : Rho → R PV := fun ρ => (f ρ).bind fun p => (asB p).bind fun b => if b = true then .ok (.bl true) else g ρ
def notP : PV → R PV
  | .bl b => .ok (.bl (!b))
  | _ => .stuck
theorem e_one {op : BoolOp} (ha : EJ X W m a f) : EJ X W m (.BoolOp op [a] pos) f := pe_one ha
theorem e_and (ha : EJ X W .s a f) (hb : EJ X W .s (.BoolOp .And (b :: rest) pos) g) : EJ X W .s (.BoolOp .And (a :: b :: rest) pos) (eAn f g) := by
  refine pe_imp (pe_and ha hb) fun σ H Q ⟨H0, O0, ρ, S, G⟩ => ⟨H0, O0, ρ, S, ?_⟩
  revert G
  unfold eAn
  cases f ρ with
  | stuck => exact False.elim
  | exc c => exact id
  | ok p =>
    cases p with
    | bl k =>
      intro G v H1 s1 r1
      cases r1
      refine ⟨k, rfl, ?_⟩
      cases k with
      | true => rw [if_pos rfl]; exact ⟨H0, O0, ρ, S.step s1, Got.later s1 G⟩
      | false => rw [if_neg Bool.false_ne_true]; exact G _ H1 s1 (.bl false)
    | _ => exact False.elim
theorem e_or (ha : EJ X W .s a f) (hb : EJ X W .s (.BoolOp .Or (b :: rest) pos) g) : EJ X W .s (.BoolOp .Or (a :: b :: rest) pos) (eOr f g) := by
  refine pe_imp (pe_or ha hb) fun σ H Q ⟨H0, O0, ρ, S, G⟩ => ⟨H0, O0, ρ, S, ?_⟩
  revert G
  unfold eOr
  cases f ρ with
  | stuck => exact False.elim
  | exc c => exact id
  | ok p =>
    cases p with
    | bl k =>
      intro G v H1 s1 r1
      cases r1
      refine ⟨k, rfl, ?_⟩
      cases k with
      | false => rw [if_neg Bool.false_ne_true]; exact ⟨H0, O0, ρ, S.step s1, Got.later s1 G⟩
      | true => rw [if_pos rfl]; exact G _ H1 s1 (.bl true)
    | _ => exact False.elim
theorem e_not (ha : EJ X W .s a f) : EJ X W .s (.UnaryOp .Not a pos) (e1 notP f) := by
  refine pe_imp (pe_not ha) fun σ H Q ⟨H0, O0, ρ, S, G⟩ => ⟨H0, O0, ρ, S, ?_⟩
  revert G
  unfold e1
  cases f ρ with
  | stuck => exact False.elim
  | exc c => exact id
  | ok p =>
    cases p with
    | bl k => exact fun G v H1 s1 r1 => by cases r1; exact ⟨k, rfl, G _ H1 s1 (.bl _)⟩
    | _ => exact False.elim
def eIf (t : Rho → R Bool) (f g : Rho → R PV) : Rho → R PV := fun ρ => (t ρ).bind fun b => if b = true then f ρ else g ρ
def aNil : Rho → R (List PV) := fun _ => .ok []
def aCons (f : Rho → R PV) (g : Rho → R (List PV)) : Rho → R (List PV) := fun ρ => (f ρ).bind fun p => (g ρ).bind fun ps => .ok (p :: ps)
variable {es : List Expr} {fA : Rho → R (List PV)}
theorem a_nil : AJ X W m [] aNil := by
  refine pa_imp pa_nil fun σ H Q ⟨H0, O0, ρ, S, G⟩ => ?_
  exact G [] H (Same.refl H) .nil
theorem a_cons (ha : EJ X W m e f) (hr : AJ X W m es fA) (hs : starEach (e :: es) X.env = (false, eval e X.env) :: starEach es X.env := by rfl) : AJ X W m (e :: es) (aCons f fA) := by
  refine pa_imp (pa_cons ha hr hs) fun σ H Q ⟨H0, O0, ρ, S, G⟩ => ⟨H0, O0, ρ, S, ?_⟩
  revert G
  unfold aCons
  cases f ρ with
  | stuck => exact False.elim
  | exc c => exact id
  | ok p =>
    intro G v H1 s1 r1
    refine ⟨H0, O0, ρ, S.step s1, ?_⟩
    revert G
    rw [R.bind_ok]
    cases fA ρ with
    | stuck => exact False.elim
    | exc c => exact fun G C H' s' => G C H' (s1.trans s')
    | ok ps =>
      intro G vs H2 s2 r2
      refine G (v :: vs) H2 (s1.trans s2) (.cons (r1.step s2) ?_)
      exact Paired.mapP r2 fun _ _ z => z.back s1
theorem reps_of {K : PySem.W.Frag} {O0 : Addr → Prop} {σ : St} {ρ : Rho} {H H' : Hp} : ∀ {vs : List V} {ps : List PV}, Paired (RepM K O0 σ ρ .s H H') vs ps → Reps K H' (OO O0 σ ρ) vs ps
  | _, _, .nil => .nil
  | _, _, .cons h r => .cons h (reps_of r)
theorem reps_ofW {K : PySem.W.Frag} {O0 : Addr → Prop} {σ : St} {ρ : Rho} {H H' : Hp} : ∀ {vs : List V} {ps : List PV}, Paired (RepM K O0 σ ρ .w H H') vs ps → Reps K H' O0 vs ps
  | _, _, .nil => .nil
  | _, _, .cons h r => .cons h (reps_ofW r)
theorem same_new {H : Hp} {p : Addr} {o : HO} (h : H p = none) : Same H (upd H p o) := fun b x z => by
  rw [upd_ne (ne_of_none z h)]; exact z
def tupP (ps : List PV) : R PV := if ps.length ≤ sizeLine then .ok (.tup ps) else .stuck
def lstP (ps : List PV) : R PV := if ps.length ≤ sizeLine then .ok (.lst ps) else .stuck
def eD (g : List PV → R PV) (f : Rho → R (List PV)) : Rho → R PV := fun ρ => (f ρ).bind g
theorem new_tup {K : PySem.W.Frag} {H0 H H1 : Hp} {O0 : Addr → Prop} {σ : St} {ρ : Rho} (S : StR K H0 O0 H1 σ ρ) {vs : List V} {ps : List PV} (r : Reps K H1 (OO O0 σ ρ) vs ps) {p : Addr} (hp : H1 p = none) : Rep K (upd H1 p (.tup vs)) (OO O0 σ ρ) (.ref p) (.tup ps) :=
  .tup (.inl ⟨upd_same, fun z => S.there z hp⟩) (r.same (same_new hp))
theorem new_lst {K : PySem.W.Frag} {H0 H H1 : Hp} {O0 : Addr → Prop} {σ : St} {ρ : Rho} (s : Same H H1) {vs : List V} {ps : List PV} (r : Reps K H1 (OO O0 σ ρ) vs ps) {p : Addr} (hp : H1 p = none) : RepM K O0 σ ρ .f H (upd H1 p (.lst vs)) (.ref p) (.lst ps) :=
  ⟨p, vs, ps, rfl, rfl, s.free hp, upd_same, r.mono fun b o hb nb => ⟨same_new hp b o hb, fun z => z.elim nb fun z => by rw [z, hp] at hb; cases hb⟩⟩
theorem e_tup {k : Nat} (h : AJ X W .s es fA) : EJ X W .s (.Tuple es k pos) (eD tupP fA) := by
  refine pe_imp (pe_tup h) fun σ H Q ⟨H0, O0, ρ, S, G⟩ => ⟨H0, O0, ρ, S, ?_⟩
  revert G
  unfold eD
  cases fA ρ with
  | stuck => exact False.elim
  | exc c => exact id
  | ok ps =>
    intro G vs H1 s1 r1
    have rr := reps_of r1
    revert G
    rw [R.bind_ok]
    unfold tupP
    split
    · rename_i hz
      exact fun G => ⟨by rw [rr.length]; exact hz, fun p hp => G _ _ (s1.trans (same_new hp)) (new_tup (H := H) (S.step s1) rr hp)⟩
    · exact False.elim
theorem e_lst (h : AJ X W .s es fA) : EJ X W .f (.List es pos) (eD lstP fA) := by
  refine pe_imp (pe_lst h) fun σ H Q ⟨H0, O0, ρ, S, G⟩ => ⟨H0, O0, ρ, S, ?_⟩
  revert G
  unfold eD
  cases fA ρ with
  | stuck => exact False.elim
  | exc c => exact id
  | ok ps =>
    intro G vs H1 s1 r1
    have rr := reps_of r1
    revert G
    rw [R.bind_ok]
    unfold lstP
    split
    · rename_i hz
      exact fun G => ⟨by rw [rr.length]; exact hz, fun p hp => G _ _ (s1.trans (same_new hp)) (new_lst (H0 := H0) s1 rr hp)⟩
    · exact False.elim
theorem e_callB {x : Str} {p : Pos} {id : String} {r : List V → Hp → VK → Prop} {g' : List PV → R PV} (hc : CallR X (.builtin id) r) (hgn : ∀ ps c, g' ps ≠ .exc c) (ho : CallS X.K r m1 m g') (hg : Gl X x) (hm : X.mg x = none) (hv : bootBuiltins x = some (.builtin id)) (ha : AJ X W m1 (e :: es) fA) (hn : x ≠ "__name__" := by decide) (hdb : (x == ("__debug__" : Str)) = false := by decide)
    (he : starEach (e :: es) X.env = (false, eval e X.env) :: starEach es X.env := by rfl) (hpl : (backTo pos (starEach es X.env)).any (·.1) = false := by rfl) : EJ X W m (.Call (.Name x p) (e :: es) [] pos) (eD g' fA) := by
  refine pe_imp (pe_callB hc hg hm hv ha hn hdb he hpl) fun σ H Q ⟨H0, O0, ρ, S, G⟩ => ⟨H0, O0, ρ, S, ?_⟩
  revert G
  unfold eD
  cases fA ρ with
  | stuck => exact False.elim
  | exc c => exact fun G => G
  | ok ps => exact fun G vs H1 s1 r1 => ho S s1 r1 (Got.v (hgn ps) s1 G)
theorem e_callTy {x : Str} {p : Pos} {T : String} {r : List V → Hp → VK → Prop} {g' : List PV → R PV} (hc : CallR X (.type T) r) (hgn : ∀ ps c, g' ps ≠ .exc c) (ho : CallS X.K r m1 m g') (hg : Gl X x) (hm : X.mg x = none) (hv : bootBuiltins x = some (.type T)) (ha : AJ X W m1 (e :: es) fA) (hn : x ≠ "__name__" := by decide) (hdb : (x == ("__debug__" : Str)) = false := by decide)
    (he : starEach (e :: es) X.env = (false, eval e X.env) :: starEach es X.env := by rfl) (hpl : (backTo pos (starEach es X.env)).any (·.1) = false := by rfl) : EJ X W m (.Call (.Name x p) (e :: es) [] pos) (eD g' fA) := by
  refine pe_imp (pe_callTy hc hg hm hv ha hn hdb he hpl) fun σ H Q ⟨H0, O0, ρ, S, G⟩ => ⟨H0, O0, ρ, S, ?_⟩
  revert G
  unfold eD
  cases fA ρ with
  | stuck => exact False.elim
  | exc c => exact fun G => G
  | ok ps => exact fun G vs H1 s1 r1 => ho S s1 r1 (Got.v (hgn ps) s1 G)
def RepR (K : PySem.W.Frag) (O : Addr → Prop) : Bool → Hp → Hp → V → PV → Prop
  | false, _, H', v, p => Rep K H' O v p
  | true, H, H', v, p => ∃ a vs ps, v = .ref a ∧ p = .lst ps ∧ H a = none ∧ H' a = some (.lst vs) ∧ Reps K H' (fun b => O b ∨ b = a) vs ps
/-- the def's promise: n arguments; the function of their values; whether what it hands back is a new list -/
def spF (K : PySem.W.Frag) (mg : Str → Option Value) (n : Nat) (nw : Bool) (F : List PV → R PV) : Sp := fun vs H Q E =>
  ∃ ps O, (∀ a, O a → H a ≠ none) ∧ Reps K H O vs ps ∧ vs.length = n ∧ (match F ps with
    | .ok p => ∀ v H', Same H H' → RepR K O nw H H' v p → Q v H'
    | .exc c => ∀ C H', Same H H' → mg c = some (.ref C) → E (.ref C) none H'
    | .stuck => False)
def mdR : Bool → Md | false => .s | true => .f
theorem e_call {x : Str} {p : Pos} {k : Nat} {fa : Addr} {fd : FuncData} {pn : List Str} {n : Nat} {nw : Bool} {F : List PV → R PV} {dvs : List V} {dps : List PV} {ds : List Value} (Fo : FnOk X.prog X.w X.K X.mg X.base (L2N.CX X.prog X.w) k fa fd pn (spF X.K X.mg n nw F)) (hr : Room k X.A) (hg : Gl X x) (hm : X.mg x = some (.ref fa))
    (hk : PySem.W.keepIn X.K (.ref fa) = true) (hb : L2.Binds X.K fd pn ds) (hd : Vals dvs ds) (hdp : ∀ H O, Reps X.K H O dvs dps) (tk : L2N.Takes X W) (ha : AJ X W .s (e :: es) fA) (hlen : n = es.length + 1 + dvs.length := by rfl) (hal : ∀ ρ ps, fA ρ = .ok ps → ps.length = es.length + 1) (hdb : (x == ("__debug__" : Str)) = false := by decide)
    (he : starEach (e :: es) X.env = (false, eval e X.env) :: starEach es X.env := by rfl) (hpl : (backTo pos (starEach es X.env)).any (·.1) = false := by rfl) : EJ X W (mdR nw) (.Call (.Name x p) (e :: es) [] pos) (eD (fun ps => F (ps ++ dps)) fA) := by
  refine pe_imp (pe_callSD (E := fun σ cls d H => W cls d σ H) Fo hr hg hm hk hb hd (fun σ => L2N.passAt tk σ) ha hdb he hpl) fun σ H Q ⟨H0, O0, ρ, S, G⟩ => ⟨H0, O0, ρ, S, ?_⟩
  revert G
  unfold eD
  cases hA : fA ρ with
  | stuck => exact False.elim
  | exc c => exact id
  | ok ps =>
    intro G vs H1 s1 r1
    have rr := reps_of r1
    refine ⟨ps ++ dps, OO O0 σ ρ, fun a z => (S.step s1).there z, rr.append (hdp _ _), ?_, ?_⟩
    · rw [List.length_append, rr.length, hal ρ ps hA, hlen]
    · revert G
      rw [R.bind_ok]
      cases F (ps ++ dps) with
      | stuck => exact id
      | exc c => exact fun G C H' s' e => G C H' (s1.trans s') e
      | ok p =>
        intro G v H' s' r'
        refine G v H' (s1.trans s') ?_
        cases nw with
        | false => exact r'
        | true =>
          obtain ⟨a, vs', ps', q1, q2, q3, q4, q5⟩ := r'
          exact ⟨a, vs', ps', q1, q2, s1.free q3, q4, q5⟩
end
end PL
set_option Elab.async false
set_option linter.all false
set_option maxRecDepth 100000
set_option autoImplicit false
namespace PL
open PySem PySem.Spec L2
open PyProof.Rows hiding St
section
variable {K : PySem.W.Frag} {H0 H H1 H2 : Hp} {O0 : Addr → Prop} {σ : St} {ρ : Rho} {x : V} {p : PV}
theorem rt_int {i : Int} (r : RepM K O0 σ ρ .t H H2 x (.int i)) : x = .int i := by
  rcases r with r | ⟨_, _, _, _, e, _⟩
  · cases r; rfl
  · cases e
theorem rt_bl {i : Bool} (r : RepM K O0 σ ρ .t H H2 x (.bl i)) : x = .bl i := by
  rcases r with r | ⟨_, _, _, _, e, _⟩
  · cases r; rfl
  · cases e
theorem rt_str {i : Str} (r : RepM K O0 σ ρ .t H H2 x (.str i)) : x = .str i := by
  rcases r with r | ⟨_, _, _, _, e, _⟩
  · cases r; rfl
  · cases e
theorem rt_lst {l : List PV} (r : RepM K O0 σ ρ .t H H2 x (.lst l)) : ∃ a vs, x = .ref a ∧ H2 a = some (.lst vs) ∧ Reps K H2 (OO O0 σ ρ) vs l := by
  rcases r with r | ⟨a, vs, ps, e1, e2, e3, e4⟩
  · cases r with
    | lst h _ r => exact ⟨_, _, rfl, h, r⟩
  · cases e2; exact ⟨a, vs, e1, e3, e4⟩
theorem sqT_of {O : Addr → Prop} {a : Addr} {xs : List V} (h : H a = some (.tup xs) ∧ ¬ O a ∨ KT K a xs) : SqT K H a xs := by
  rcases h with ⟨h, _⟩ | h
  · exact .inl (.inl h)
  · exact .inr h
theorem rt_tup {l : List PV} (r : RepM K O0 σ ρ .t H H2 x (.tup l)) : ∃ a vs, x = .ref a ∧ (H2 a = some (.tup vs) ∧ ¬ OO O0 σ ρ a ∨ KT K a vs) ∧ Reps K H2 (OO O0 σ ρ) vs l := by
  rcases r with r | ⟨a, vs, ps, e1, e2, e3, e4⟩
  · cases r with
    | tup h r => exact ⟨_, _, rfl, h, r⟩
  · cases e2
theorem rt_frz {l : List PV} (r : RepM K O0 σ ρ .t H H2 x (.frz l)) : ∃ (a : Addr) (ns : List Int), x = .ref a ∧ l = ns.map PV.int ∧ SqL K H2 a (ns.map V.int) := by
  rcases r with r | ⟨a, vs, ps, e1, e2, e3, e4⟩
  · generalize hl : PV.frz l = q at r
    cases r with
    | frz h =>
      cases hl
      refine ⟨_, _, rfl, rfl, ?_⟩
      rcases h with ⟨⟨o, h⟩, _⟩ | h
      · exact .inl (.inr ⟨o, h⟩)
      · exact h _
    | _ => cases hl
  · cases e2
end
def addP : PV → PV → R PV
  | .int a, .int b => .ok (.int (a + b))
  | .str a, .str b => if a.length + b.length ≤ sizeLine then .ok (.str (a ++ b)) else .stuck
  | .tup a, .tup b => if a.length + b.length ≤ sizeLine then .ok (.tup (a ++ b)) else .stuck
  | .lst a, .lst b => if a.length + b.length ≤ sizeLine then .ok (.lst (a ++ b)) else .stuck
  | _, _ => .stuck
theorem addP_exc (p q : PV) (c : Str) : addP p q ≠ .exc c := by
  unfold addP; split <;> (try split) <;> exact fun z => nomatch z
def rAddP (K : PySem.W.Frag) : R2 := fun x y H Q => rI0 (fun i j => .int (i + j)) x y H Q ∨ (∃ i j, x = .str i ∧ y = .str j ∧ i.length + j.length ≤ sizeLine ∧ Q (.str (i ++ j)) H) ∨ rCatA K x y H Q ∨ rCat x y H Q
theorem op_addP {X : Cx} : OpR X (binaryOp .Add) (rAddP X.K) := op_add.or (op_add_str.or (op_catA.or op_cat))
theorem cat_s {K : PySem.W.Frag} {H0 H H2 : Hp} {O0 : Addr → Prop} {σ : St} {ρ : Rho} {x y : V} {a b : List PV} {Q : VK} (S : StR K H0 O0 H σ ρ) (s : Same H H2) (rx : RepM K O0 σ ρ .t H H2 x (.lst a)) (ry : RepM K O0 σ ρ .t H H2 y (.lst b))
    (hz : a.length + b.length ≤ sizeLine) (G : ∀ v H', Same H2 H' → RepM K O0 σ ρ .f H H' v (.lst (a ++ b)) → Q v H') : rCat x y H2 Q := by
  obtain ⟨c, vs, rfl, h1, r1⟩ := rt_lst rx
  obtain ⟨d, ws, rfl, h2, r2⟩ := rt_lst ry
  exact ⟨c, d, vs, ws, rfl, rfl, h1, h2, by rw [r1.length, r2.length]; exact hz, fun l hl => G _ _ (same_new hl) (new_lst (H0 := H0) s (r1.append r2) hl)⟩
theorem s_addP (K : PySem.W.Frag) : OpS K (rAddP K) .t .t .s addP := by
  intro H0 O0 σ ρ H H2 x y p q Q S s rx ry G
  unfold addP at G
  split at G
  · rw [rt_int rx, rt_int ry]; exact .inl ⟨_, _, rfl, rfl, G _ _ (Same.refl _) (.int _)⟩
  · split at G
    · rename_i hz
      rw [rt_str rx, rt_str ry]; exact .inr (.inl ⟨_, _, rfl, rfl, hz, G _ _ (Same.refl _) (.str _)⟩)
    · exact G.elim
  · split at G
    · rename_i hz
      obtain ⟨c, vs, rfl, h1, r1⟩ := rt_tup rx
      obtain ⟨d, ws, rfl, h2, r2⟩ := rt_tup ry
      refine .inr (.inr (.inl ⟨c, d, vs, ws, rfl, rfl, sqT_of h1, sqT_of h2, by rw [r1.length, r2.length]; exact hz, fun e => ?_, fun _ e => ?_, fun _ _ l hl => ?_⟩))
      · subst e
        cases r1
        exact G _ _ (Same.refl _) (.tup h2 r2)
      · subst e
        cases r2
        rw [List.append_nil] at G
        exact G _ _ (Same.refl _) (.tup h1 r1)
      · exact G _ _ (same_new hl) (new_tup (H := H) (S.step s) (r1.append r2) hl)
    · exact G.elim
  · split at G
    · rename_i hz
      exact .inr (.inr (.inr (cat_s S s rx ry hz fun v H' s' r' => G v H' s' (RepM.f_s S r'))))
    · exact G.elim
  · exact G.elim
/-- an operation of two ints -/
def intP (c : Int → Int → Bool) (g : Int → Int → PV) : PV → PV → R PV
  | .int a, .int b => if c a b = true then .ok (g a b) else .stuck
  | _, _ => .stuck
theorem intP_exc {c : Int → Int → Bool} {g : Int → Int → PV} (p q : PV) (k : Str) : intP c g p q ≠ .exc k := by
  unfold intP; split <;> (try split) <;> exact fun z => nomatch z
theorem s_int {K : PySem.W.Frag} {C : Int → Int → Prop} {c : Int → Int → Bool} {gv : Int → Int → V} {g : Int → Int → PV} (hc : ∀ a b, c a b = true → C a b) (hr : ∀ H O a b, Rep K H O (gv a b) (g a b)) : OpS K (rI C gv) .t .t .s (intP c g) := by
  intro H0 O0 σ ρ H H2 x y p q Q S s rx ry G
  unfold intP at G
  split at G
  · split at G
    · rename_i hz
      rw [rt_int rx, rt_int ry]; exact ⟨_, _, rfl, rfl, hc _ _ hz, G _ _ (Same.refl _) (hr _ _ _ _)⟩
    · exact G.elim
  · exact G.elim
theorem s_int0 {K : PySem.W.Frag} {gv : Int → Int → V} {g : Int → Int → PV} (hr : ∀ H O a b, Rep K H O (gv a b) (g a b)) : OpS K (rI0 gv) .t .t .s (intP (fun _ _ => true) g) := by
  intro H0 O0 σ ρ H H2 x y p q Q S s rx ry G
  unfold intP at G
  split at G
  · rw [if_pos rfl] at G
    rw [rt_int rx, rt_int ry]; exact ⟨_, _, rfl, rfl, G _ _ (Same.refl _) (hr _ _ _ _)⟩
  · exact G.elim
abbrev subP := intP (fun _ _ => true) fun a b => .int (a - b)
abbrev okMul (a b : Int) : Bool := decide (a.natAbs.log2 + b.natAbs.log2 < 100000000)
/-- factors of together less than a hundred million bits -/
def CMulV (i j : Int) : Prop := i.natAbs.log2 + j.natAbs.log2 < 100000000
theorem CMulV.okM {i j : Int} (h : CMulV i j) : IntMulOk i j := by
  have b : ∀ y : Int, Builtin.Int.intBits y ≤ y.natAbs.log2 + 1 := fun y => by unfold Builtin.Int.intBits; split <;> omega
  have h1 := b i
  have h2 := b j
  unfold CMulV at h
  exact CMulX.ok (show CMulX i j by unfold CMulX; omega)
theorem op_mulV {X : Cx} : OpR X (binaryOp .Mult) (rI CMulV fun i j => .int (i * j)) := opI fun _ _ _ _ _ _ _ hc q => mul_int q hc.okM
abbrev mulP := intP okMul fun a b => .int (a * b)
abbrev okDiv (_ b : Int) : Bool := decide (b ≠ 0) && decide (b.natAbs.log2 < 9000)
abbrev fdivP := intP okDiv fun a b => .int (a.fdiv b)
abbrev modP := intP (fun _ b => decide (b ≠ 0)) fun a b => .int (a.fmod b)
abbrev okPow (a b : Int) : Bool := decide (0 ≤ b) && decide (b ≤ 1000000) && decide (a.natAbs < 2 ^ 64)
abbrev powP := intP okPow fun a b => .int (a ^ b.toNat)
abbrev ltP := intP (fun _ _ => true) fun a b => .bl (decide (a < b))
abbrev leP := intP (fun _ _ => true) fun a b => .bl (decide (a ≤ b))
abbrev gtP := intP (fun _ _ => true) fun a b => .bl (decide (b < a))
abbrev geP := intP (fun _ _ => true) fun a b => .bl (decide (b ≤ a))
def CDivA (i j : Int) : Prop := j ≠ 0 ∧ j.natAbs.log2 < 9000
theorem op_fdivA {X : Cx} : OpR X (binaryOp .FloorDiv) (rI CDivA fun i j => .int (i.fdiv j)) := opI fun i j _ _ _ _ _ hc q => floordiv_int hc.1 q (.inl (PyProof.noPylong_of_log2 hc.2))
theorem iop_mulW {X : Cx} : OpR X (inplaceOp .Mult) (rI CMulV fun i j => .int (i * j)) := opI fun _ _ _ _ _ _ _ hc q => imul_int q hc.okM
theorem okDiv_C (a b : Int) (h : okDiv a b = true) : CDivA a b := by
  rw [Bool.and_eq_true, decide_eq_true_eq, decide_eq_true_eq] at h; exact h
theorem okPow_C (a b : Int) (h : okPow a b = true) : CPow a b := by
  rw [Bool.and_eq_true, Bool.and_eq_true, decide_eq_true_eq, decide_eq_true_eq, decide_eq_true_eq] at h; exact ⟨h.1.1, h.1.2, h.2⟩
section
variable {X : Cx} {W : WX} {e a b c : Expr} {pos : Pos} {m : Md} {f g h : Rho → R PV}
theorem e_add (ha : EJ X W .t a f) (hb : EJ X W .t b g) : EJ X W .s (.BinOp a .Add b pos) (e2 addP f g) := e_op op_addP addP_exc (s_addP _) ha hb
theorem e_sub (ha : EJ X W .t a f) (hb : EJ X W .t b g) : EJ X W .s (.BinOp a .Sub b pos) (e2 subP f g) := e_op op_sub intP_exc (s_int0 fun _ _ _ _ => .int _) ha hb
theorem e_mul (ha : EJ X W .t a f) (hb : EJ X W .t b g) : EJ X W .s (.BinOp a .Mult b pos) (e2 mulP f g) := e_op op_mulV intP_exc (s_int (fun _ _ h => of_decide_eq_true h) fun _ _ _ _ => .int _) ha hb
theorem e_fdiv (ha : EJ X W .t a f) (hb : EJ X W .t b g) : EJ X W .s (.BinOp a .FloorDiv b pos) (e2 fdivP f g) := e_op op_fdivA intP_exc (s_int okDiv_C fun _ _ _ _ => .int _) ha hb
theorem e_mod (ha : EJ X W .t a f) (hb : EJ X W .t b g) : EJ X W .s (.BinOp a .Mod b pos) (e2 modP f g) := e_op op_modN intP_exc (s_int (fun _ _ h => of_decide_eq_true h) fun _ _ _ _ => .int _) ha hb
theorem e_pow (ha : EJ X W .t a f) (hb : EJ X W .t b g) : EJ X W .s (.BinOp a .Pow b pos) (e2 powP f g) := e_op op_pow intP_exc (s_int okPow_C fun _ _ _ _ => .int _) ha hb
theorem e_lt (ha : EJ X W .t a f) (hb : EJ X W .t b g) : EJ X W .s (.Compare a [.Lt] [b] pos) (e2 ltP f g) := e_cmp op_lt intP_exc (s_int0 fun _ _ _ _ => .bl _) ha hb (nomark _)
theorem e_gt (ha : EJ X W .t a f) (hb : EJ X W .t b g) : EJ X W .s (.Compare a [.Gt] [b] pos) (e2 gtP f g) := e_cmp op_gt intP_exc (s_int0 fun _ _ _ _ => .bl _) ha hb (nomark _)
theorem t_lt (ha : EJ X W .t a f) (hb : EJ X W .t b g) : TJ X W (.Compare a [.Lt] [b] pos) (tB1 (e2 ltP f g)) := t_cmp op_lt intP_exc (s_int0 fun _ _ _ _ => .bl _) ha hb (nomark _)
theorem t_gt (ha : EJ X W .t a f) (hb : EJ X W .t b g) : TJ X W (.Compare a [.Gt] [b] pos) (tB1 (e2 gtP f g)) := t_cmp op_gt intP_exc (s_int0 fun _ _ _ _ => .bl _) ha hb (nomark _)
def negP : PV → R PV
  | .int a => .ok (.int (-a))
  | _ => .stuck
theorem e_neg (ha : EJ X W .t a f) : EJ X W .s (.UnaryOp .USub a pos) (e1 negP f) := by
  refine e_un un_neg (fun p c => ?_) ?_ ha
  · unfold negP; split <;> exact fun z => nomatch z
  · intro H0 O0 σ ρ H H2 x p Q S s rx G
    unfold negP at G
    split at G
    · rw [rt_int rx]; exact ⟨_, rfl, G _ _ (Same.refl _) (.int _)⟩
    · exact G.elim
end
mutual
def toD : PV → PyData
  | .non => .none
  | .bl b => .bool b
  | .int i => .int i
  | .str s => .str s
  | .tup l => .tuple (toDs l)
  | .lst l => .list (toDs l)
  | .frz l => .list (toDs l)
  | .dct => .dict []
def toDs : List PV → List PyData
  | [] => []
  | p :: ps => toD p :: toDs ps
end
mutual
def eqV' : PV → PV → Bool
  | .non, .non => true
  | .bl a, .bl b => a == b
  | .bl a, .int j => (if a then 1 else 0) == j
  | .int i, .bl b => i == (if b then 1 else 0)
  | .int i, .int j => i == j
  | .str x, .str y => x == y
  | .lst xs, .lst ys => eqVs xs ys
  | .lst xs, .frz ys => eqVs xs ys
  | .frz xs, .lst ys => eqVs xs ys
  | .frz xs, .frz ys => eqVs xs ys
  | .tup xs, .tup ys => eqVs xs ys
  | _, _ => false
def eqVs : List PV → List PV → Bool
  | [], [] => true
  | x :: xs, y :: ys => eqV' x y && eqVs xs ys
  | _, _ => false
end
/-- data that may be compared, by how deep it is -/
def okD : Nat → PV → Bool
  | _, .non => true
  | _, .bl _ => true
  | _, .int _ => true
  | _, .str s => PySem.PyData.strOk s
  | n + 1, .tup l => l.all (okD n)
  | n + 1, .lst l => l.all (okD n)
  | n + 1, .frz l => l.all (okD n)
  | _, _ => false
def eqP (p q : PV) : R PV := if (okD 30 p && okD 30 q) = true then .ok (.bl (eqV' p q)) else .stuck
def neP (p q : PV) : R PV := if (okD 30 p && okD 30 q) = true then .ok (.bl (!eqV' p q)) else .stuck
mutual
theorem eqv_toD : ∀ p q : PV, PyData.eqv (toD p) (toD q) = eqV' p q
  | .lst a, .lst b | .lst a, .frz b | .frz a, .lst b | .frz a, .frz b | .tup a, .tup b => by simp only [toD, PyData.eqv, eqV', eqv_toDs a b]
  | .non, q | .bl _, q | .int _, q | .str _, q | .dct, q => by cases q <;> simp only [toD, PyData.eqv, eqV']
  | .lst a, .non | .lst a, .bl _ | .lst a, .int _ | .lst a, .str _ | .lst a, .tup _ | .lst a, .dct => by simp only [toD, PyData.eqv, eqV']
  | .frz a, .non | .frz a, .bl _ | .frz a, .int _ | .frz a, .str _ | .frz a, .tup _ | .frz a, .dct => by simp only [toD, PyData.eqv, eqV']
  | .tup a, .non | .tup a, .bl _ | .tup a, .int _ | .tup a, .str _ | .tup a, .lst _ | .tup a, .frz _ | .tup a, .dct => by simp only [toD, PyData.eqv, eqV']
theorem eqv_toDs : ∀ p q : List PV, PyData.eqvAll (toDs p) (toDs q) = eqVs p q
  | [], [] => by simp only [toDs, PyData.eqvAll, eqVs]
  | x :: xs, y :: ys => by simp only [toDs, PyData.eqvAll, eqVs, eqv_toD x y, eqv_toDs xs ys]
  | [], _ :: _ => by simp only [toDs, PyData.eqvAll, eqVs]
  | _ :: _, [] => by simp only [toDs, PyData.eqvAll, eqVs]
end
mutual
theorem okD_lay : ∀ (n : Nat) (p : PV), okD n p = true → (toD p).canLay0 = true ∧ (toD p).depth ≤ n
  | n, .non, _ => ⟨rfl, Nat.zero_le _⟩
  | n, .bl _, _ => ⟨rfl, Nat.zero_le _⟩
  | n, .int _, _ => ⟨rfl, Nat.zero_le _⟩
  | n, .str s, h => ⟨by simpa only [toD, PyData.canLay0, okD] using h, Nat.zero_le _⟩
  | n, .dct, h => by simp [okD] at h
  | 0, .tup l, h => by simp [okD] at h
  | 0, .lst l, h => by simp [okD] at h
  | 0, .frz l, h => by simp [okD] at h
  | n + 1, .tup l, h => by
    have z := okDs_lay n l (by simpa only [okD] using h)
    simp only [toD, PyData.canLay0, PyData.depth]
    exact ⟨z.1, by omega⟩
  | n + 1, .lst l, h => by
    have z := okDs_lay n l (by simpa only [okD] using h)
    simp only [toD, PyData.canLay0, PyData.depth]
    exact ⟨z.1, by omega⟩
  | n + 1, .frz l, h => by
    have z := okDs_lay n l (by simpa only [okD] using h)
    simp only [toD, PyData.canLay0, PyData.depth]
    exact ⟨z.1, by omega⟩
theorem okDs_lay : ∀ (n : Nat) (l : List PV), l.all (okD n) = true → PyData.canLayAll0 (toDs l) = true ∧ PyData.depthAll (toDs l) ≤ n
  | n, [], _ => ⟨rfl, Nat.zero_le _⟩
  | n, p :: ps, h => by
    rw [List.all_cons, Bool.and_eq_true] at h
    have z1 := okD_lay n p h.1
    have z2 := okDs_lay n ps h.2
    simp only [toDs, PyData.canLayAll0, PyData.depthAll, z1.1, z2.1]
    exact ⟨rfl, Nat.max_le.mpr ⟨z1.2, z2.2⟩⟩
end
theorem okD_shaped {p : PV} (h : okD 30 p = true) : SeqAt.shaped (toD p) = true := by
  have z := okD_lay 30 p h
  unfold SeqAt.shaped
  rw [z.1, decide_eq_true (show (toD p).depth ≤ 64 by omega)] <;> rfl
theorem dpAll_ints {K : PySem.W.Frag} {H : Hp} : ∀ ns : List Int, DpAll K H (ns.map V.int) (toDs (ns.map PV.int))
  | [] => by simp only [List.map_nil, toDs]; exact .nil
  | n :: ns => by simp only [List.map_cons, toDs, toD]; exact .cons (.int n) (dpAll_ints ns)
mutual
theorem rep_dp {K : PySem.W.Frag} {H : Hp} {O : Addr → Prop} : ∀ {v : V} {p : PV} (n : Nat), Rep K H O v p → okD n p = true → Dp K H v (toD p)
  | _, _, _, .non, _ => by simp only [toD]; exact .non
  | _, _, _, .bl b, _ => by simp only [toD]; exact .bl b
  | _, _, _, .int i, _ => by simp only [toD]; exact .int i
  | _, _, _, .str s, _ => by simp only [toD]; exact .str s
  | _, _, 0, .lst _ _ _, h => by simp [okD] at h
  | _, _, n + 1, .lst h1 _ r, h => by simp only [toD]; exact .lst (.inl (.inl h1)) (reps_dp n r (by simpa only [okD] using h))
  | _, _, 0, .tup _ _, h => by simp [okD] at h
  | _, _, n + 1, .tup h1 r, h => by simp only [toD]; exact .tup (sqT_of h1) (reps_dp n r (by simpa only [okD] using h))
  | _, _, _, .frz h1, h => by
    simp only [toD]
    refine .lst ?_ (dpAll_ints _)
    rcases h1 with ⟨⟨o, h1⟩, _⟩ | h1
    · exact .inl (.inr ⟨o, h1⟩)
    · exact h1 _
  | _, _, n, .dct _ _, h => by simp [okD] at h
theorem reps_dp {K : PySem.W.Frag} {H : Hp} {O : Addr → Prop} : ∀ {v : List V} {p : List PV} (n : Nat), Reps K H O v p → p.all (okD n) = true → DpAll K H v (toDs p)
  | _, _, _, .nil, _ => by simp only [toDs]; exact .nil
  | _, _, n, .cons h r, hz => by
    rw [List.all_cons, Bool.and_eq_true] at hz
    simp only [toDs]
    exact .cons (rep_dp n h hz.1) (reps_dp n r hz.2)
end
theorem rt_dp {K : PySem.W.Frag} {H H2 : Hp} {O0 : Addr → Prop} {σ : St} {ρ : Rho} {x : V} {p : PV} (r : RepM K O0 σ ρ .t H H2 x p) (h : okD 30 p = true) : Dp K H2 x (toD p) := by
  rcases r with r | ⟨a, vs, ps, rfl, rfl, e3, e4⟩
  · exact rep_dp 30 r h
  · simp only [toD]; exact .lst (.inl (.inl e3)) (reps_dp 29 e4 (by simpa only [okD] using h))
theorem eqP_exc (p q : PV) (c : Str) : eqP p q ≠ .exc c := by unfold eqP; split <;> exact fun z => nomatch z
theorem neP_exc (p q : PV) (c : Str) : neP p q ≠ .exc c := by unfold neP; split <;> exact fun z => nomatch z
theorem s_eq (K : PySem.W.Frag) : OpS K (rEqD K) .t .t .s eqP := by
  intro H0 O0 σ ρ H H2 x y p q Q S s rx ry G
  unfold eqP at G
  split at G
  · rename_i hz
    rw [Bool.and_eq_true] at hz
    exact ⟨_, _, rt_dp rx hz.1, rt_dp ry hz.2, okD_shaped hz.1, okD_shaped hz.2, by rw [eqv_toD]; exact G _ _ (Same.refl _) (.bl _)⟩
  · exact G.elim
theorem s_ne (K : PySem.W.Frag) : OpS K (rNeD K) .t .t .s neP := by
  intro H0 O0 σ ρ H H2 x y p q Q S s rx ry G
  unfold neP at G
  split at G
  · rename_i hz
    rw [Bool.and_eq_true] at hz
    exact ⟨_, _, rt_dp rx hz.1, rt_dp ry hz.2, okD_shaped hz.1, okD_shaped hz.2, by rw [eqv_toD]; exact G _ _ (Same.refl _) (.bl _)⟩
  · exact G.elim
section
variable {X : Cx} {W : WX} {e a b c : Expr} {pos : Pos} {m : Md} {f g h : Rho → R PV}
theorem e_eq (hu : X.A.units + 64 < cLine) (ha : EJ X W .t a f) (hb : EJ X W .t b g) : EJ X W .s (.Compare a [.Eq] [b] pos) (e2 eqP f g) := e_cmp (op_eqD hu) eqP_exc (s_eq _) ha hb (nomark _)
theorem e_ne (hu : X.A.units + 64 < cLine) (ha : EJ X W .t a f) (hb : EJ X W .t b g) : EJ X W .s (.Compare a [.NotEq] [b] pos) (e2 neP f g) := e_cmp (op_neD hu) neP_exc (s_ne _) ha hb (nomark _)
theorem t_eq (hu : X.A.units + 64 < cLine) (ha : EJ X W .t a f) (hb : EJ X W .t b g) : TJ X W (.Compare a [.Eq] [b] pos) (tB1 (e2 eqP f g)) := t_cmp (op_eqD hu) eqP_exc (s_eq _) ha hb (nomark _)
theorem t_ne (hu : X.A.units + 64 < cLine) (ha : EJ X W .t a f) (hb : EJ X W .t b g) : TJ X W (.Compare a [.NotEq] [b] pos) (tB1 (e2 neP f g)) := t_cmp (op_neD hu) neP_exc (s_ne _) ha hb (nomark _)
def eChain (g1 g2 : PV → PV → R PV) (f g h : Rho → R PV) : Rho → R PV := fun ρ => (f ρ).bind fun x => (g ρ).bind fun y => (g1 x y).bind fun z => (asB z).bind fun k => if k = true then (h ρ).bind fun w => g2 y w else .ok (.bl false)
theorem q_chain {r r' : R2} {g1 g2 : PV → PV → R PV} (hg1 : ∀ p q c, g1 p q ≠ .exc c) (hg2 : ∀ p q c, g2 p q ≠ .exc c) (ho : OpS X.K r .t .t .s g1) (ho' : OpS X.K r' .t .t .s g2) :
    ∀ σ H Q, tE X.K X.mg W .s (eChain g1 g2 f g h) σ H Q → tChain r r' (tE X.K X.mg W .t f) (tE X.K X.mg W .t g) (tE X.K X.mg W .t h) σ H Q := by
  intro σ H Q ⟨H0, O0, ρ, S, G⟩
  refine ⟨H0, O0, ρ, S, ?_⟩
  revert G
  unfold eChain
  cases f ρ with
  | stuck => exact False.elim
  | exc c => exact id
  | ok p =>
    intro G x H1 s1 r1
    refine ⟨H0, O0, ρ, S.step s1, ?_⟩
    revert G
    rw [R.bind_ok]
    cases g ρ with
    | stuck => exact False.elim
    | exc c => exact fun G C H' s' => G C H' (s1.trans s')
    | ok q =>
      intro G y H2 s2 r2
      refine ho S (s1.trans s2) (r1.step s2) (r2.back s1) ?_
      revert G
      rw [R.bind_ok]
      cases hz : g1 p q with
      | stuck => exact False.elim
      | exc c => exact absurd hz (hg1 p q c)
      | ok z =>
        intro G v H3 s3 r3
        revert G
        rw [R.bind_ok]
        cases z with
        | bl k =>
          intro G
          cases r3
          refine ⟨k, rfl, ?_⟩
          cases k with
          | false => rw [if_neg Bool.false_ne_true]; exact G _ _ ((s1.trans s2).trans s3) (.bl false)
          | true =>
            rw [if_pos rfl]
            have s123 := (s1.trans s2).trans s3
            refine ⟨H0, O0, ρ, S.step s123, ?_⟩
            have G' : Got X.K X.mg W O0 σ ρ .s H Q ((h ρ).bind fun w => g2 q w) := G
            revert G'
            cases h ρ with
            | stuck => exact False.elim
            | exc c => exact fun G C H' s' => G C H' (s123.trans s')
            | ok w =>
              intro G v H4 s4 r4
              exact ho' S (s123.trans s4) ((r2.back s1).step (s3.trans s4)) (r4.back s123) (Got.v (hg2 q w) (s123.trans s4) G)
        | _ => exact False.elim
theorem e_chain {op op' : CmpOp} {r r' : R2} {g1 g2 : PV → PV → R PV} (hr : OpR X (compareOp op) r) (hr' : OpR X (compareOp op') r') (hg1 : ∀ p q c, g1 p q ≠ .exc c) (hg2 : ∀ p q c, g2 p q ≠ .exc c) (ho : OpS X.K r .t .t .s g1) (ho' : OpS X.K r' .t .t .s g2)
    (ha : EJ X W .t a f) (hb : EJ X W .t b g) (hc : EJ X W .t c h) (hm : lastMarks [op, op'] [b, c] = false) : EJ X W .s (.Compare a [op, op'] [b, c] pos) (eChain g1 g2 f g h) :=
  pe_imp (pe_chain hr hr' ha hb hc hm) (q_chain hg1 hg2 ho ho')
theorem e_leLt (ha : EJ X W .t a f) (hb : EJ X W .t b g) (hc : EJ X W .t c h) (hm : lastMarks [.LtE, .Lt] [b, c] = false := by with_unfolding_all rfl) : EJ X W .s (.Compare a [.LtE, .Lt] [b, c] pos) (eChain leP ltP f g h) :=
  e_chain op_le op_lt intP_exc intP_exc (s_int0 fun _ _ _ _ => .bl _) (s_int0 fun _ _ _ _ => .bl _) ha hb hc hm
end
end PL
set_option Elab.async false
set_option linter.all false
set_option maxRecDepth 100000
set_option autoImplicit false
namespace PL
open PySem PySem.Spec L2
open PyProof.Rows hiding St
def ixP : PV → PV → R PV
  | .lst l, .int i | .tup l, .int i | .frz l, .int i => match atI l i with
    | some p => .ok p
    | none => .stuck
  | .str s, .int i => if s.length ≤ sizeLine then (match atI s.cps.toList i with
    | some c => .ok (.str ⟨#[c]⟩)
    | none => .stuck) else .stuck
  | _, _ => .stuck
theorem ixP_exc (p q : PV) (c : Str) : ixP p q ≠ .exc c := by
  unfold ixP; split <;> (try split) <;> (try split) <;> exact fun z => nomatch z
theorem reps_at {K : PySem.W.Frag} {H : Hp} {O : Addr → Prop} {vs : List V} {ps : List PV} {i : Int} {p : PV} (r : Reps K H O vs ps) (h : atI ps i = some p) : ∃ v, atI vs i = some v ∧ Rep K H O v p := by
  unfold atI at h ⊢
  rw [r.length]
  cases q : ixN ps.length i with
  | none => rw [q] at h; cases h
  | some j =>
    rw [q, Option.bind_some] at h
    rw [Option.bind_some]
    exact r.get h
theorem s_ix (K : PySem.W.Frag) : OpS K (rIx K) .t .t .s ixP := by
  intro H0 O0 σ ρ H H2 x y p q Q S s rx ry G
  unfold ixP at G
  split at G
  · split at G
    · rename_i p hp
      obtain ⟨a, vs, rfl, h1, r1⟩ := rt_lst rx
      obtain ⟨v, h2, r2⟩ := reps_at r1 hp
      exact .inl ⟨a, vs, _, v, rfl, rt_int ry, .inl (.inl h1), h2, G _ _ (Same.refl _) r2⟩
    · exact G.elim
  · split at G
    · rename_i p hp
      obtain ⟨a, vs, rfl, h1, r1⟩ := rt_tup rx
      obtain ⟨v, h2, r2⟩ := reps_at r1 hp
      exact .inr (.inl ⟨a, vs, _, v, rfl, rt_int ry, sqT_of h1, h2, G _ _ (Same.refl _) r2⟩)
    · exact G.elim
  · split at G
    · rename_i p hp
      obtain ⟨a, ns, rfl, rfl, h1⟩ := rt_frz rx
      obtain ⟨v, h2, r2⟩ := reps_at (K := K) (H := H2) (O := OO O0 σ ρ) (Reps.ofInts ns) hp
      exact .inl ⟨a, _, _, v, rfl, rt_int ry, h1, h2, G _ _ (Same.refl _) r2⟩
    · exact G.elim
  · split at G
    · rename_i hz
      split at G
      · rename_i c hc
        exact .inr (.inr ⟨_, _, c, rt_str rx, rt_int ry, hz, hc, G _ _ (Same.refl _) (.str _)⟩)
      · exact G.elim
    · exact G.elim
  · exact G.elim
def cutG {α : Type} (xs : List α) (lo hi : Option Int) : List α := (xs.drop (HT.sIx xs.length 0 lo)).take (HT.sIx xs.length xs.length hi - HT.sIx xs.length 0 lo)
theorem reps_cut {K : PySem.W.Frag} {H : Hp} {O : Addr → Prop} {vs : List V} {ps : List PV} (lo hi : Option Int) (r : Reps K H O vs ps) : Reps K H O (cutV vs lo hi) (cutG ps lo hi) := by
  unfold cutV cutG
  rw [r.length]
  exact (r.drop _).take _
def slP (p : PV) (lo hi : Option Int) : R PV := match p with
  | .lst l | .frz l => .ok (.lst (cutG l lo hi))
  | .tup l => .ok (.tup (cutG l lo hi))
  | .str s => if s.length ≤ sizeLine then .ok (.str (cutS s lo hi)) else .stuck
  | _ => .stuck
def slL (p : PV) (lo hi : Option Int) : R PV := match p with
  | .lst l | .frz l => .ok (.lst (cutG l lo hi))
  | _ => .stuck
def asI : PV → R Int
  | .int i => .ok i
  | _ => .stuck
def oNone : Rho → R (Option Int) := fun _ => .ok none
def oSome (f : Rho → R PV) : Rho → R (Option Int) := fun ρ => (f ρ).bind fun p => (asI p).bind fun i => .ok (some i)
def eSl (g : PV → Option Int → Option Int → R PV) (f : Rho → R PV) (lo hi : Rho → R (Option Int)) : Rho → R PV := fun ρ => (f ρ).bind fun p => (lo ρ).bind fun l => (hi ρ).bind fun h => g p l h
def tO' (K : PySem.W.Frag) (mg : Str → Option Value) (W : WX) (f : Rho → R (Option Int)) : L2.TO := fun σ H Q =>
  ∃ H0 O0 ρ, StR K H0 O0 H σ ρ ∧ (match f ρ with
    | .ok o => ∀ H', Same H H' → Q o H'
    | .exc c => ∀ C H', Same H H' → mg c = some (.ref C) → W (.ref C) none σ H'
    | .stuck => False)
abbrev OJ (X : Cx) (W : WX) (e : Option Expr) (f : Rho → R (Option Int)) : Prop := PO X e (tO' X.K X.mg W f)
def SlS (K : PySem.W.Frag) (r : V → Option Int → Option Int → Hp → VK → Prop) (m : Md) (g : PV → Option Int → Option Int → R PV) : Prop :=
  ∀ {H0 O0 σ ρ H H2 x p lo hi} {Q : VK}, StR K H0 O0 H σ ρ → Same H H2 → RepM K O0 σ ρ .t H H2 x p → GotV K O0 σ ρ m H H2 Q (g p lo hi) → r x lo hi H2 Q
section
variable {X : Cx} {W : WX} {e a b c : Expr} {pos p2 : Pos} {m : Md} {f g h : Rho → R PV} {lo hi : Option Expr} {fl fh : Rho → R (Option Int)}
theorem po_imp {t t' : L2.TO} {e : Option Expr} (h : PO X e t) (q : ∀ σ H Q, t' σ H Q → t σ H Q) : PO X e t' := ⟨fun pins s σ H Q I hw => h.run pins s σ H Q I (q σ H Q hw)⟩
theorem o_none : OJ X W none oNone := by
  refine po_imp po_none fun σ H Q ⟨H0, O0, ρ, S, G⟩ => ?_
  exact G H (Same.refl H)
theorem o_some (ha : EJ X W .s e f) : OJ X W (some e) (oSome f) := by
  refine po_imp (po_some ha) fun σ H Q ⟨H0, O0, ρ, S, G⟩ => ⟨H0, O0, ρ, S, ?_⟩
  revert G
  unfold oSome
  cases f ρ with
  | stuck => exact False.elim
  | exc c => exact fun G => G
  | ok p =>
    cases p with
    | int i => exact fun G v H' s r => by cases r; exact ⟨i, rfl, G H' s⟩
    | _ => exact False.elim
theorem e_sl {r : V → Option Int → Option Int → Hp → VK → Prop} {g' : PV → Option Int → Option Int → R PV} (hr : SlR X r) (hg : ∀ p l h c, g' p l h ≠ .exc c) (ho : SlS X.K r m g') (ha : EJ X W .t a f) (hl : OJ X W lo fl) (hh : OJ X W hi fh) :
    EJ X W m (.Subscript a (.Slice lo hi none p2) pos) (eSl g' f fl fh) := by
  refine pe_imp (pe_slice hr ha hl hh) fun σ H Q ⟨H0, O0, ρ, S, G⟩ => ⟨H0, O0, ρ, S, ?_⟩
  revert G
  unfold eSl
  cases f ρ with
  | stuck => exact False.elim
  | exc c => exact fun G => G
  | ok p =>
    intro G x H1 s1 r1
    refine ⟨H0, O0, ρ, S.step s1, ?_⟩
    revert G
    rw [R.bind_ok]
    cases fl ρ with
    | stuck => exact False.elim
    | exc c => exact fun G C H' s' => G C H' (s1.trans s')
    | ok l =>
      intro G H2 s2
      refine ⟨H0, O0, ρ, S.step (s1.trans s2), ?_⟩
      revert G
      rw [R.bind_ok]
      cases fh ρ with
      | stuck => exact False.elim
      | exc c => exact fun G C H' s' => G C H' ((s1.trans s2).trans s')
      | ok h =>
        intro G H3 s3
        exact ho S ((s1.trans s2).trans s3) (r1.step (s2.trans s3)) (Got.v (hg p l h) ((s1.trans s2).trans s3) G)
def rSlP (K : PySem.W.Frag) : V → Option Int → Option Int → Hp → VK → Prop := fun x lo hi H Q => rSlL K x lo hi H Q ∨ rSlA K x lo hi H Q ∨ rSlS x lo hi H Q
theorem sl_P : SlR X (rSlP X.K) := sl_list.or (sl_tupA.or sl_str)
theorem slP_exc (p : PV) (l h : Option Int) (c : Str) : slP p l h ≠ .exc c := by
  unfold slP; split <;> (try split) <;> exact fun z => nomatch z
theorem slL_exc (p : PV) (l h : Option Int) (c : Str) : slL p l h ≠ .exc c := by
  unfold slL; split <;> exact fun z => nomatch z
theorem sl_ints (ns : List Int) (lo hi : Option Int) : cutV (ns.map V.int) lo hi = (cutG ns lo hi).map V.int ∧ cutG (ns.map PV.int) lo hi = (cutG ns lo hi).map PV.int := by
  unfold cutV cutG
  rw [List.length_map, List.length_map, List.map_take, List.map_drop, List.map_take, List.map_drop]
  exact ⟨rfl, rfl⟩
theorem s_slL (K : PySem.W.Frag) : SlS K (rSlL K) .f slL := by
  intro H0 O0 σ ρ H H2 x p lo hi Q S s rx G
  unfold slL at G
  split at G
  · obtain ⟨a, vs, rfl, h1, r1⟩ := rt_lst rx
    exact ⟨a, vs, rfl, .inl (.inl h1), fun q hq => G _ _ (same_new hq) (new_lst (H0 := H0) s (reps_cut lo hi r1) hq)⟩
  · obtain ⟨a, ns, rfl, rfl, h1⟩ := rt_frz rx
    refine ⟨a, _, rfl, h1, fun q hq => G _ _ (same_new hq) ?_⟩
    rw [(sl_ints ns lo hi).1, (sl_ints ns lo hi).2]
    exact new_lst (H0 := H0) s (Reps.ofInts _) hq
  · exact G.elim
theorem s_slP (K : PySem.W.Frag) : SlS K (rSlP K) .s slP := by
  intro H0 O0 σ ρ H H2 x p lo hi Q S s rx G
  unfold slP at G
  split at G
  · exact .inl (s_slL K S s rx fun v H' s' r => G v H' s' (RepM.f_s S r))
  · exact .inl (s_slL K S s rx fun v H' s' r => G v H' s' (RepM.f_s S r))
  · obtain ⟨a, vs, rfl, h1, r1⟩ := rt_tup rx
    refine .inr (.inl ⟨a, vs, rfl, sqT_of h1, fun ⟨z1, z2⟩ => ?_, fun _ q hq => G _ _ (same_new hq) (new_tup (H := H) (S.step s) (reps_cut lo hi r1) hq)⟩)
    have e : ∀ {α : Type} (l : List α), l.length = vs.length → cutG l lo hi = l := fun l hl => by
      unfold cutG
      rw [hl, z1, z2, List.drop_zero, Nat.sub_zero, ← hl, List.take_length]
    rw [e _ r1.length.symm] at G
    exact G _ _ (Same.refl _) (.tup h1 r1)
  · split at G
    · rename_i hz
      exact .inr (.inr ⟨_, rt_str rx, hz, G _ _ (Same.refl _) (.str _)⟩)
    · exact G.elim
  · exact G.elim
theorem e_slice (ha : EJ X W .t a f) (hl : OJ X W lo fl) (hh : OJ X W hi fh) : EJ X W .s (.Subscript a (.Slice lo hi none p2) pos) (eSl slP f fl fh) := e_sl sl_P slP_exc (s_slP _) ha hl hh
theorem e_sliceL (ha : EJ X W .t a f) (hl : OJ X W lo fl) (hh : OJ X W hi fh) : EJ X W .f (.Subscript a (.Slice lo hi none p2) pos) (eSl slL f fl fh) := e_sl sl_list slL_exc (s_slL _) ha hl hh
theorem e_item (ha : EJ X W .t a f) (hb : EJ X W .t b g) (hs : PlainIx b) : EJ X W .s (.Subscript a b pos) (e2 ixP f g) := e_ix ix_seq ixP_exc (s_ix _) ha hb hs
end
def lenP : List PV → R PV
  | [.lst l] | [.tup l] | [.frz l] => .ok (.int l.length)
  | [.str s] => if s.length ≤ sizeLine then .ok (.int s.length) else .stuck
  | _ => .stuck
def absP : List PV → R PV
  | [.int i] => .ok (.int (if i < 0 then -i else i))
  | _ => .stuck
def intP1 : List PV → R PV
  | [.int i] => .ok (.int i)
  | [.bl k] => .ok (.int (if k then 1 else 0))
  | _ => .stuck
def listP : List PV → R PV
  | [.lst l] | [.tup l] | [.frz l] => .ok (.lst l)
  | _ => .stuck
def tupleP : List PV → R PV
  | [.lst l] | [.tup l] | [.frz l] => .ok (.tup l)
  | _ => .stuck
def asBs : List PV → Option (List Bool)
  | [] => some []
  | .bl b :: r => (asBs r).map (b :: ·)
  | _ => none
def allP : List PV → R PV
  | [.lst l] => match asBs l with
    | some bs => .ok (.bl (bs.all id))
    | none => .stuck
  | _ => .stuck
def divmodP : List PV → R PV
  | [.int i, .int j] => if 0 < j ∧ j.natAbs.log2 < 9000 then .ok (.tup [.int (i / j), .int (i % j)]) else .stuck
  | _ => .stuck
theorem asBs_map : ∀ {l : List PV} {bs : List Bool}, asBs l = some bs → l = bs.map PV.bl
  | [], _, h => by cases h; rfl
  | .bl b :: r, bs, h => by
    unfold asBs at h
    obtain ⟨cs, h1, rfl⟩ := Option.map_eq_some_iff.mp h
    rw [asBs_map h1]; rfl
  | .non :: _, _, h | .int _ :: _, _, h | .str _ :: _, _, h | .tup _ :: _, _, h | .lst _ :: _, _, h | .frz _ :: _, _, h | .dct :: _, _, h => by simp [asBs] at h
theorem asBs_of : ∀ bs : List Bool, asBs (bs.map PV.bl) = some bs
  | [] => rfl
  | b :: bs => by simp [asBs, asBs_of bs]
section
variable {X : Cx} {W : WX}
theorem pr1 {F : V → PV → Prop} {vs : List V} {p : PV} (h : Paired F vs [p]) : ∃ v, vs = [v] ∧ F v p := by
  cases h with
  | cons a r => cases r; exact ⟨_, rfl, a⟩
theorem pr2 {F : V → PV → Prop} {vs : List V} {p q : PV} (h : Paired F vs [p, q]) : ∃ v w, vs = [v, w] ∧ F v p ∧ F w q := by
  cases h with
  | cons a r =>
    obtain ⟨w, rfl, b⟩ := pr1 r
    exact ⟨_, _, rfl, a, b⟩
theorem s_len (K : PySem.W.Frag) : CallS K (fun xs H Q => ∃ x n, xs = [x] ∧ LenV K x H n ∧ Q (.int n) H) .t .s lenP := by
  intro H0 O0 σ ρ H H2 xs ps Q S s r G
  unfold lenP at G
  split at G
  · obtain ⟨v, rfl, r1⟩ := pr1 r
    obtain ⟨a, vs, rfl, h1, r2⟩ := rt_lst r1
    exact ⟨_, vs.length, rfl, .inl ⟨vs, .inl (.inl h1), rfl⟩, by rw [r2.length]; exact G _ _ (Same.refl _) (.int _)⟩
  · obtain ⟨v, rfl, r1⟩ := pr1 r
    obtain ⟨a, vs, rfl, h1, r2⟩ := rt_tup r1
    exact ⟨_, vs.length, rfl, .inr ⟨vs, sqT_of h1, rfl⟩, by rw [r2.length]; exact G _ _ (Same.refl _) (.int _)⟩
  · obtain ⟨v, rfl, r1⟩ := pr1 r
    obtain ⟨a, ns, rfl, rfl, h1⟩ := rt_frz r1
    refine ⟨_, _, rfl, .inl ⟨_, h1, rfl⟩, ?_⟩
    rw [List.length_map] at G ⊢
    exact G _ _ (Same.refl _) (.int _)
  · split at G
    · rename_i hz
      obtain ⟨v, rfl, r1⟩ := pr1 r
      rw [rt_str r1]
      exact ⟨_, _, rfl, ⟨hz, rfl⟩, G _ _ (Same.refl _) (.int _)⟩
    · exact G.elim
  · exact G.elim
theorem s_int1 (K : PySem.W.Frag) : CallS K (fun xs H Q => (∃ i, xs = [.int i] ∧ Q (.int i) H) ∨ ∃ k, xs = [.bl k] ∧ Q (.int (if k then 1 else 0)) H) .t .s intP1 := by
  intro H0 O0 σ ρ H H2 xs ps Q S s r G
  unfold intP1 at G
  split at G
  · obtain ⟨v, rfl, r1⟩ := pr1 r
    rw [rt_int r1]; exact .inl ⟨_, rfl, G _ _ (Same.refl _) (.int _)⟩
  · obtain ⟨v, rfl, r1⟩ := pr1 r
    rw [rt_bl r1]; exact .inr ⟨_, rfl, G _ _ (Same.refl _) (.int _)⟩
  · exact G.elim
theorem s_list (K : PySem.W.Frag) : CallS K (fun xs H Q => ∃ p ys, xs = [.ref p] ∧ (SqL K H p ys ∨ SqT K H p ys) ∧ ∀ l, H l = none → Q (.ref l) (upd H l (.lst ys))) .t .f listP := by
  intro H0 O0 σ ρ H H2 xs ps Q S s r G
  unfold listP at G
  split at G
  · obtain ⟨v, rfl, r1⟩ := pr1 r
    obtain ⟨a, vs, rfl, h1, r2⟩ := rt_lst r1
    exact ⟨a, vs, rfl, .inl (.inl (.inl h1)), fun l hl => G _ _ (same_new hl) (new_lst (H0 := H0) s r2 hl)⟩
  · obtain ⟨v, rfl, r1⟩ := pr1 r
    obtain ⟨a, vs, rfl, h1, r2⟩ := rt_tup r1
    exact ⟨a, vs, rfl, .inr (sqT_of h1), fun l hl => G _ _ (same_new hl) (new_lst (H0 := H0) s r2 hl)⟩
  · obtain ⟨v, rfl, r1⟩ := pr1 r
    obtain ⟨a, ns, rfl, rfl, h1⟩ := rt_frz r1
    exact ⟨a, _, rfl, .inl h1, fun l hl => G _ _ (same_new hl) (new_lst (H0 := H0) s (Reps.ofInts ns) hl)⟩
  · exact G.elim
theorem s_tuple (K : PySem.W.Frag) : CallS K (fun xs H Q => ∃ p ys, xs = [.ref p] ∧ ((SqL K H p ys ∧ ∀ l, H l = none → Q (.ref l) (upd H l (.tup ys))) ∨ (SqT K H p ys ∧ Q (.ref p) H))) .t .s tupleP := by
  intro H0 O0 σ ρ H H2 xs ps Q S s r G
  unfold tupleP at G
  split at G
  · obtain ⟨v, rfl, r1⟩ := pr1 r
    obtain ⟨a, vs, rfl, h1, r2⟩ := rt_lst r1
    exact ⟨a, vs, rfl, .inl ⟨.inl (.inl h1), fun l hl => G _ _ (same_new hl) (new_tup (H := H) (S.step s) r2 hl)⟩⟩
  · obtain ⟨v, rfl, r1⟩ := pr1 r
    obtain ⟨a, vs, rfl, h1, r2⟩ := rt_tup r1
    exact ⟨a, vs, rfl, .inr ⟨sqT_of h1, G _ _ (Same.refl _) (.tup h1 r2)⟩⟩
  · obtain ⟨v, rfl, r1⟩ := pr1 r
    obtain ⟨a, ns, rfl, rfl, h1⟩ := rt_frz r1
    exact ⟨a, _, rfl, .inl ⟨h1, fun l hl => G _ _ (same_new hl) (new_tup (H := H) (S.step s) (Reps.ofInts ns) hl)⟩⟩
  · exact G.elim
theorem s_all (K : PySem.W.Frag) : CallS K (rAll K) .t .s allP := by
  intro H0 O0 σ ρ H H2 xs ps Q S s r G
  unfold allP at G
  split at G
  · split at G
    · rename_i bs hbs
      obtain ⟨v, rfl, r1⟩ := pr1 r
      rw [asBs_map hbs] at r1
      obtain ⟨a, vs, rfl, h1, r2⟩ := rt_lst r1
      rw [r2.bls] at h1
      exact ⟨a, bs, rfl, .inl (.inl h1), G _ _ (Same.refl _) (.bl _)⟩
    · exact G.elim
  · exact G.elim
theorem noPy {i j : Int} (h : j.natAbs.log2 < 9000) : Builtin.divisionGoesByPylong i j = false := PyProof.noPylong_of_log2 h
theorem s_divmod (K : PySem.W.Frag) : CallS K (fun xs H Q => ∃ i j, xs = [.int i, .int j] ∧ CDivP i j ∧ ∀ p, H p = none → Q (.ref p) (upd H p (.tup [.int (i / j), .int (i % j)]))) .t .s divmodP := by
  intro H0 O0 σ ρ H H2 xs ps Q S s r G
  unfold divmodP at G
  split at G
  · split at G
    · rename_i hz
      obtain ⟨v, w, rfl, r1, r2⟩ := pr2 r
      rw [rt_int r1, rt_int r2]
      exact ⟨_, _, rfl, ⟨hz.1, noPy hz.2⟩, fun l hl => G _ _ (same_new hl) (new_tup (H := H) (S.step s) (.cons (.int _) (.cons (.int _) .nil)) hl)⟩
    · exact G.elim
  · exact G.elim
theorem lenP_exc (ps : List PV) (c : Str) : lenP ps ≠ .exc c := by unfold lenP; split <;> (try split) <;> exact fun z => nomatch z
theorem intP1_exc (ps : List PV) (c : Str) : intP1 ps ≠ .exc c := by unfold intP1; split <;> exact fun z => nomatch z
theorem listP_exc (ps : List PV) (c : Str) : listP ps ≠ .exc c := by unfold listP; split <;> exact fun z => nomatch z
theorem tupleP_exc (ps : List PV) (c : Str) : tupleP ps ≠ .exc c := by unfold tupleP; split <;> exact fun z => nomatch z
theorem allP_exc (ps : List PV) (c : Str) : allP ps ≠ .exc c := by unfold allP; split <;> (try split) <;> exact fun z => nomatch z
theorem divmodP_exc (ps : List PV) (c : Str) : divmodP ps ≠ .exc c := by unfold divmodP; split <;> (try split) <;> exact fun z => nomatch z
variable {e : Expr} {es : List Expr} {pos p : Pos} {fA : Rho → R (List PV)} {f : Rho → R PV}
theorem e_len (mg : X.mg "len" = none) (hg : Gl X "len") (ha : AJ X W .t [e] fA) (he : starEach [e] X.env = (false, eval e X.env) :: starEach [] X.env := by rfl) : EJ X W .s (.Call (.Name "len" p) [e] [] pos) (eD lenP fA) := e_callB call_len lenP_exc (s_len _) hg mg PySem.boot_len ha (he := he)
theorem e_int1 (mg : X.mg "int" = none) (hg : Gl X "int") (ha : AJ X W .t [e] fA) (he : starEach [e] X.env = (false, eval e X.env) :: starEach [] X.env := by rfl) : EJ X W .s (.Call (.Name "int" p) [e] [] pos) (eD intP1 fA) := e_callTy call_int1 intP1_exc (s_int1 _) hg mg (by decide +kernel) ha (he := he)
theorem e_list (mg : X.mg "list" = none) (hg : Gl X "list") (ha : AJ X W .t [e] fA) (he : starEach [e] X.env = (false, eval e X.env) :: starEach [] X.env := by rfl) : EJ X W .f (.Call (.Name "list" p) [e] [] pos) (eD listP fA) := e_callTy call_list_of listP_exc (s_list _) hg mg (by decide +kernel) ha (he := he)
theorem e_tuple (mg : X.mg "tuple" = none) (hg : Gl X "tuple") (ha : AJ X W .t [e] fA) (he : starEach [e] X.env = (false, eval e X.env) :: starEach [] X.env := by rfl) : EJ X W .s (.Call (.Name "tuple" p) [e] [] pos) (eD tupleP fA) := e_callTy call_tuple_of tupleP_exc (s_tuple _) hg mg (by decide +kernel) ha (he := he)
theorem e_all (hc : X.calm = true) (mg : X.mg "all" = none) (hg : Gl X "all") (ha : AJ X W .t [e] fA) (he : starEach [e] X.env = (false, eval e X.env) :: starEach [] X.env := by rfl) : EJ X W .s (.Call (.Name "all" p) [e] [] pos) (eD allP fA) := e_callB (cr_all hc) allP_exc (s_all _) hg mg (by decide +kernel) ha (he := he)
theorem e_divmod {e' : Expr} (mg : X.mg "divmod" = none) (hg : Gl X "divmod") (ha : AJ X W .t [e, e'] fA) (he : starEach [e, e'] X.env = (false, eval e X.env) :: starEach [e'] X.env := by rfl) (hpl : (backTo pos (starEach [e'] X.env)).any (·.1) = false := by rfl) : EJ X W .s (.Call (.Name "divmod" p) [e, e'] [] pos) (eD divmodP fA) := e_callB call_divmodW divmodP_exc (s_divmod _) hg mg (by decide +kernel) ha (he := he) (hpl := hpl)
def tyN : PV → String
  | .non => "NoneType" | .bl _ => "bool" | .int _ => "int" | .str _ => "str" | .tup _ => "tuple" | .lst _ => "list" | .frz _ => "list" | .dct => "dict"
def isiP (n : String) (p : PV) : R PV := match kitB (tyN p) n with
  | some b => .ok (.bl b)
  | none => .stuck
theorem rt_ty {K : PySem.W.Frag} {H H2 : Hp} {O0 : Addr → Prop} {σ : St} {ρ : Rho} {x : V} {p : PV} (r : RepM K O0 σ ρ .t H H2 x p) : TyX K H2 x (.type (tyN p)) := by
  rcases r with r | ⟨a, vs, ps, rfl, rfl, e3, e4⟩
  · cases r with
    | non => exact .base .non
    | bl b => exact .base (.bl b)
    | int i => exact .base (.int i)
    | str i => exact .base (.str i)
    | lst h _ _ => exact .base (.lst h)
    | tup h _ =>
      rcases h with ⟨h, _⟩ | ⟨o, its, n, h1, h2, _⟩
      · exact .base (.tup h)
      · exact .kTuple h1 h2
    | frz h =>
      rcases h with ⟨⟨o, h⟩, _⟩ | h
      · exact .base (.frz h)
      · rcases h fun _ => none with (h | ⟨_, h⟩) | ⟨o, its, n, h1, h2, _⟩
        · cases h
        · cases h
        · exact .kList h1 h2
    | dct h _ => exact .base (.dK h)
  · exact .base (.lst e3)
theorem e_isi {n : String} {en : Expr} (mg : X.mg "isinstance" = none) (hg : Gl X "isinstance") (ha : EJ X W .t e f) (hn : PE X en (tC (.ty n))) (he : starEach [e, en] X.env = (false, eval e X.env) :: starEach [en] X.env := by rfl) (he2 : starEach [en] X.env = (false, eval en X.env) :: starEach [] X.env := by rfl) (hpl : (backTo pos (starEach [en] X.env)).any (·.1) = false := by rfl) :
    EJ X W .s (.Call (.Name "isinstance" p) [e, en] [] pos) (e1 (isiP n) f) := by
  refine pe_imp (pe_callB call_isi hg mg PyProof.Rows.boot_isinstance (pa_cons ha (pa_cons hn pa_nil he2) he) (by decide) (by decide) he hpl) fun σ H Q ⟨H0, O0, ρ, S, G⟩ => ⟨H0, O0, ρ, S, ?_⟩
  revert G
  unfold e1
  cases f ρ with
  | stuck => exact False.elim
  | exc c => exact fun G => G
  | ok q =>
    intro G x H1 s1 r1
    rw [R.bind_ok] at G
    unfold isiP at G
    split at G
    · rename_i b hb
      exact ⟨x, .ty n, _, _, b, rfl, .ty n, rt_ty r1, kit_ty hb, G _ _ s1 (.bl b)⟩
    · exact G.elim
def isiP2 (n m : String) (p : PV) : R PV := match kitB (tyN p) n, kitB (tyN p) m with
  | some b, some c => .ok (.bl (b || c))
  | _, _ => .stuck
theorem e_isi2 {n m : String} {en em : Expr} {pt : Pos} {k : Nat} (mg : X.mg "isinstance" = none) (hg : Gl X "isinstance") (ha : EJ X W .t e f) (hn : PE X en (tC (.ty n))) (hm : PE X em (tC (.ty m))) (he : starEach [e, .Tuple [en, em] k pt] X.env = (false, eval e X.env) :: starEach [.Tuple [en, em] k pt] X.env := by rfl)
    (he2 : starEach [.Tuple [en, em] k pt] X.env = (false, eval (.Tuple [en, em] k pt) X.env) :: starEach [] X.env := by rfl) (he3 : starEach [en, em] X.env = (false, eval en X.env) :: starEach [em] X.env := by rfl) (he4 : starEach [em] X.env = (false, eval em X.env) :: starEach [] X.env := by rfl) (hpl : (backTo pos (starEach [.Tuple [en, em] k pt] X.env)).any (·.1) = false := by rfl) :
    EJ X W .s (.Call (.Name "isinstance" p) [e, .Tuple [en, em] k pt] [] pos) (e1 (isiP2 n m) f) := by
  refine pe_imp (pe_callB call_isiT hg mg PyProof.Rows.boot_isinstance (pa_cons ha (pa_cons (pe_tup (pa_cons hn (pa_cons hm pa_nil he4) he3)) pa_nil he2) he) (by decide) (by decide) he hpl) fun σ H Q ⟨H0, O0, ρ, S, G⟩ => ⟨H0, O0, ρ, S, ?_⟩
  revert G
  unfold e1
  cases f ρ with
  | stuck => exact False.elim
  | exc c => exact fun G => G
  | ok q =>
    intro G x H1 s1 r1
    rw [R.bind_ok] at G
    unfold isiP2 at G
    split at G
    · rename_i b c hb hc
      refine ⟨by show 2 ≤ sizeLine; decide, fun t ht => ?_⟩
      refine ⟨x, t, [.ty n, .ty m], _, [.type n, .type m], b || c, rfl, upd_same, .cons (.ty n) (.cons (.ty m) .nil), rt_ty (r1.step (same_new ht)), kitAny_cons (kit_ty hb) (fun e => ?_) (fun e => by rw [e]; rfl), G _ _ (s1.trans (same_new ht)) (.bl _)⟩
      rw [e, Bool.false_or]
      exact kitAny_cons (kit_ty hc) (fun e => by rw [e]; exact kitAny_nil) fun e => e
    · exact G.elim
end
end PL
set_option Elab.async false
set_option linter.all false
set_option maxRecDepth 100000
set_option autoImplicit false
namespace PL
open PySem PySem.Spec L2
open PyProof.Rows hiding St
def Kept (O : Addr → Prop) (H : Hp) (O' : Addr → Prop) (H' : Hp) : Prop := ∀ a o, H a = some o → ¬ O a → H' a = some o ∧ ¬ O' a
theorem Kept.refl (O : Addr → Prop) (H : Hp) : Kept O H O H := fun _ _ h n => ⟨h, n⟩
theorem Kept.trans {O O1 O2 : Addr → Prop} {H H1 H2 : Hp} (a : Kept O H O1 H1) (b : Kept O1 H1 O2 H2) : Kept O H O2 H2 := fun c o h n => b c o (a c o h n).1 (a c o h n).2
theorem Kept.same {O : Addr → Prop} {H H' : Hp} (s : Same H H') : Kept O H O H' := fun a o h n => ⟨s a o h, n⟩
structure ItOk (K : PySem.W.Frag) (J : It) (items : List PV) (O1 : Addr → Prop) (H1 : Hp) : Prop where
  go : ∀ i H O, Kept O1 H1 O H → i < items.length → J.go i H
  stop : ∀ i H O, Kept O1 H1 O H → items.length ≤ i → J.stop i H
  yld : ∀ i H O x H' p, Kept O1 H1 O H → (∀ a, O a → H a ≠ none) → items[i]? = some p → J.yld i H x H' → Same H H' ∧ Rep K H' O x p
def GotI (K : PySem.W.Frag) (mg : Str → Option Value) (W : WX) (O0 : Addr → Prop) (σ : St) (ρ : Rho) (H : Hp) (Q : It → Hp → Prop) : R (List PV) → Prop
  | .ok items => ∀ J H', Same H H' → ItOk K J items (OO O0 σ ρ) H' → Q J H'
  | .exc c => ∀ C H', Same H H' → mg c = some (.ref C) → W (.ref C) none σ H'
  | .stuck => False
def tI (K : PySem.W.Frag) (mg : Str → Option Value) (W : WX) (f : Rho → R (List PV)) : TI := fun σ H Q =>
  ∃ H0 O0 ρ, StR K H0 O0 H σ ρ ∧ GotI K mg W O0 σ ρ H Q (f ρ)
abbrev IJ (X : Cx) (W : WX) (tg it : Expr) (f : Rho → R (List PV)) : Prop := PI X tg it (tI X.K X.mg W f)
section
variable {X : Cx} {W : WX} {e e' e'' tg : Expr} {pos p : Pos} {f : Rho → R PV} {fA : Rho → R (List PV)} {K : PySem.W.Frag}
theorem pi_imp {t t' : TI} (h : PI X tg e t) (q : ∀ σ H Q, t' σ H Q → t σ H Q) : PI X tg e t' := ⟨fun pins s σ H Q I hw => h.run pins s σ H Q I (q σ H Q hw)⟩
/-- the items of a list, a tuple -/
def asL : PV → R (List PV)
  | .lst l | .frz l => .ok l
  | _ => .stuck
def asS : PV → R (List PV)
  | .lst l | .frz l | .tup l => .ok l
  | _ => .stuck
def iRv (f : Rho → R PV) : Rho → R (List PV) := fun ρ => (f ρ).bind fun p => (asS p).bind fun l => .ok l.reverse
theorem kept_reps {H H1 : Hp} {O O1 : Addr → Prop} (k : Kept O1 H1 O H) {v : V} {p : PV} (r : Rep K H1 O1 v p) : Rep K H O v p := r.mono k
theorem lst_it {H1 : Hp} {O1 : Addr → Prop} {a : Addr} {l : List PV} (r : Rep K H1 O1 (.ref a) (.lst l)) : ItOk K (Itl K a) l O1 H1 ∧ ∃ xs, SqL K H1 a xs := by
  cases r with
  | @lst _ vs _ h n r =>
    refine ⟨⟨fun i H O k hi => ?_, fun i H O k hi => ⟨vs, .inl (.inl (k _ _ h n).1), by rw [r.length]; exact hi⟩, fun i H O x H' p k _ hp hy => ?_⟩, vs, .inl (.inl h)⟩
    · obtain ⟨v, hv, _⟩ := r.get (List.getElem?_eq_getElem hi)
      exact ⟨vs, v, .inl (.inl (k _ _ h n).1), hv⟩
    · obtain ⟨rfl, hx⟩ := hy
      obtain ⟨q, hq, rq⟩ := r.get' (hx vs (.inl (.inl (k _ _ h n).1)))
      rw [hp] at hq; cases hq
      exact ⟨Same.refl _, kept_reps k rq⟩
theorem frz_it {H1 : Hp} {O1 : Addr → Prop} {a : Addr} {l : List PV} (r : Rep K H1 O1 (.ref a) (.frz l)) : ItOk K (Itl K a) l O1 H1 ∧ ∃ xs, SqL K H1 a xs := by
  generalize hl : PV.frz l = q at r
  cases r with
  | @frz _ ns h =>
    cases hl
    have sq : ∀ H O, Kept O1 H1 O H → SqL K H a (ns.map V.int) := fun H O k => by
      rcases h with ⟨⟨o, h⟩, n⟩ | h
      · exact .inl (.inr ⟨o, (k _ _ h n).1⟩)
      · exact h _
    refine ⟨⟨fun i H O k hi => ?_, fun i H O k hi => ⟨_, sq H O k, by simpa using hi⟩, fun i H O x H' p k _ hp hy => ?_⟩, _, sq _ _ (Kept.refl _ _)⟩
    · rw [List.length_map] at hi
      exact ⟨_, .int ns[i], sq H O k, by rw [List.getElem?_map, List.getElem?_eq_getElem hi]; rfl⟩
    · obtain ⟨rfl, hx⟩ := hy
      have hx := hx _ (sq _ O k)
      rw [List.getElem?_map] at hp hx
      cases hn : ns[i]? with
      | none => rw [hn] at hp; cases hp
      | some n =>
        rw [hn] at hp hx
        cases hp; cases hx
        exact ⟨Same.refl _, .int n⟩
  | _ => cases hl
theorem tup_it {H1 : Hp} {O1 : Addr → Prop} {a : Addr} {l : List PV} (r : Rep K H1 O1 (.ref a) (.tup l)) : ItOk K (Itt K a) l O1 H1 ∧ ∃ xs, SqT K H1 a xs := by
  cases r with
  | @tup _ vs _ h r =>
    have sq : ∀ H O, Kept O1 H1 O H → SqT K H a vs := fun H O k => by
      rcases h with ⟨h, n⟩ | h
      · exact .inl (.inl (k _ _ h n).1)
      · exact .inr h
    refine ⟨⟨fun i H O k hi => ?_, fun i H O k hi => ⟨vs, sq H O k, by rw [r.length]; exact hi⟩, fun i H O x H' p k _ hp hy => ?_⟩, vs, sq _ _ (Kept.refl _ _)⟩
    · obtain ⟨v, hv, _⟩ := r.get (List.getElem?_eq_getElem hi)
      exact ⟨vs, v, sq H O k, hv⟩
    · obtain ⟨rfl, hx⟩ := hy
      obtain ⟨q, hq, rq⟩ := r.get' (hx vs (sq _ O k))
      rw [hp] at hq; cases hq
      exact ⟨Same.refl _, kept_reps k rq⟩
/-- a PI by either of two readings -/
theorem pi_or {w1 w2 : TI} (h1 : PI X tg e w1) (h2 : PI X tg e w2) : PI X tg e (fun σ H R => w1 σ H R ∨ w2 σ H R) := ⟨fun pins s σ H R I hw => by
  rcases hw with hw | hw
  · exact h1.run pins s σ H R I hw
  · exact h2.run pins s σ H R I hw⟩
def iS (f : Rho → R PV) : Rho → R (List PV) := fun ρ => (f ρ).bind asS
theorem ref_of {H1 : Hp} {O1 : Addr → Prop} {v : V} {p : PV} (r : Rep K H1 O1 v p) (h : (∃ l, p = .lst l) ∨ (∃ l, p = .frz l) ∨ ∃ l, p = .tup l) : ∃ a, v = .ref a := by
  rcases h with ⟨l, rfl⟩ | ⟨l, rfl⟩ | ⟨l, rfl⟩
  · cases r; exact ⟨_, rfl⟩
  · generalize hl : PV.frz l = q at r
    cases r with
    | frz h => exact ⟨_, rfl⟩
    | _ => cases hl
  · cases r; exact ⟨_, rfl⟩
/-- a list or a tuple, walked -/
theorem i_seq (he : EJ X W .s e f) : IJ X W tg e (iS f) := by
  refine pi_imp (pi_or (L2.pi_list he) (L2.pi_tup he)) fun σ H Q ⟨H0, O0, ρ, S, G⟩ => ?_
  revert G
  unfold iS
  cases hf : f ρ with
  | stuck => exact False.elim
  | exc c => exact fun G => .inl ⟨H0, O0, ρ, S, by rw [hf]; exact G⟩
  | ok p =>
    cases p with
    | lst l =>
      intro G
      refine .inl ⟨H0, O0, ρ, S, ?_⟩
      rw [hf]
      intro v H1 s1 r1
      obtain ⟨a, rfl⟩ := ref_of r1 (.inl ⟨l, rfl⟩)
      obtain ⟨h1, h2⟩ := lst_it r1
      exact ⟨a, rfl, h2, G _ _ s1 h1⟩
    | frz l =>
      intro G
      refine .inl ⟨H0, O0, ρ, S, ?_⟩
      rw [hf]
      intro v H1 s1 r1
      obtain ⟨a, rfl⟩ := ref_of r1 (.inr (.inl ⟨l, rfl⟩))
      obtain ⟨h1, h2⟩ := frz_it r1
      exact ⟨a, rfl, h2, G _ _ s1 h1⟩
    | tup l =>
      intro G
      refine .inr ⟨H0, O0, ρ, S, ?_⟩
      rw [hf]
      intro v H1 s1 r1
      obtain ⟨a, rfl⟩ := ref_of r1 (.inr (.inr ⟨l, rfl⟩))
      obtain ⟨h1, h2⟩ := tup_it r1
      exact ⟨a, rfl, h2, G _ _ s1 h1⟩
    | _ => exact False.elim
theorem rev_ix {α : Type} {l : List α} {i : Nat} (h : i < l.length) : l.reverse[i]? = l[l.length - 1 - i]? := List.getElem?_reverse h
theorem i_rev (mg : X.mg "reversed" = none) (hg : Gl X "reversed") (he : EJ X W .s e f) (hs : starEach [e] X.env = (false, eval e X.env) :: starEach [] X.env := by rfl) : IJ X W tg (.Call (.Name "reversed" p) [e] [] pos) (iRv f) := by
  refine pi_imp (RT.pi_revA hg mg he hs) fun σ H Q ⟨H0, O0, ρ, S, G⟩ => ⟨H0, O0, ρ, S, ?_⟩
  revert G
  unfold iRv
  cases hf : f ρ with
  | stuck => exact False.elim
  | exc c => exact fun G => G
  | ok p =>
    cases p with
    | lst l =>
      intro G v H1 s1 r1
      cases (show Rep X.K H1 (OO O0 σ ρ) v (.lst l) from r1) with
      | @lst a vs _ h n r =>
        refine ⟨a, vs, rfl, .inl ⟨.inl (.inl h), G _ _ s1 ⟨fun i H O k hi => ?_, fun i H O k hi => ?_, fun i H O x H' p k _ hp hy => ?_⟩⟩⟩
        · rw [List.length_reverse] at hi
          refine ⟨by rw [r.length]; exact hi, vs, vs[vs.length - 1 - i]'(by rw [r.length]; omega), .inl (.inl (k _ _ h n).1), List.getElem?_eq_getElem _⟩
        · rw [List.length_reverse] at hi
          show vs.length ≤ i
          rw [r.length]; exact hi
        · obtain ⟨rfl, hx⟩ := hy
          have hi : i < l.length := by
            have := (List.getElem?_eq_some_iff.mp hp).1
            simpa using this
          rw [rev_ix hi] at hp
          obtain ⟨q, hq, rq⟩ := r.get' (hx vs (.inl (.inl (k _ _ h n).1)))
          rw [r.length] at hq
          rw [hp] at hq; cases hq
          exact ⟨Same.refl _, kept_reps k rq⟩
    | tup l =>
      intro G v H1 s1 r1
      cases (show Rep X.K H1 (OO O0 σ ρ) v (.tup l) from r1) with
      | @tup a vs _ h r =>
        have sq : ∀ H O, Kept (OO O0 σ ρ) H1 O H → SqT X.K H a vs := fun H O k => by
          rcases h with ⟨h, n⟩ | h
          · exact .inl (.inl (k _ _ h n).1)
          · exact .inr h
        refine ⟨a, vs, rfl, .inr ⟨sq _ _ (Kept.refl _ _), G _ _ s1 ⟨fun i H O k hi => ?_, fun i H O k hi => ?_, fun i H O x H' p k _ hp hy => ?_⟩⟩⟩
        · rw [List.length_reverse] at hi
          refine ⟨by rw [r.length]; exact hi, vs, vs[vs.length - 1 - i]'(by rw [r.length]; omega), sq H O k, List.getElem?_eq_getElem _⟩
        · rw [List.length_reverse] at hi
          show vs.length ≤ i
          rw [r.length]; exact hi
        · obtain ⟨rfl, hx⟩ := hy
          have hi : i < l.length := by
            have := (List.getElem?_eq_some_iff.mp hp).1
            simpa using this
          rw [rev_ix hi] at hp
          obtain ⟨q, hq, rq⟩ := r.get' (hx vs (sq _ O k))
          rw [r.length] at hq
          rw [hp] at hq; cases hq
          exact ⟨Same.refl _, kept_reps k rq⟩
    | frz l =>
      intro G v H1 s1 r1
      obtain ⟨a, rfl⟩ := ref_of r1 (.inr (.inl ⟨l, rfl⟩))
      generalize hl : PV.frz l = q at r1
      cases (show Rep X.K H1 (OO O0 σ ρ) (.ref a) q from r1) with
      | @frz a ns h =>
        cases hl
        have sq : ∀ H O, Kept (OO O0 σ ρ) H1 O H → SqL X.K H a (ns.map V.int) := fun H O k => by
          rcases h with ⟨⟨o, h⟩, n⟩ | h
          · exact .inl (.inr ⟨o, (k _ _ h n).1⟩)
          · exact h _
        refine ⟨a, _, rfl, .inl ⟨sq _ _ (Kept.refl _ _), G _ _ s1 ⟨fun i H O k hi => ?_, fun i H O k hi => ?_, fun i H O x H' p k _ hp hy => ?_⟩⟩⟩
        · rw [List.length_reverse, List.length_map] at hi
          refine ⟨by rw [List.length_map]; exact hi, _, (ns.map V.int)[(ns.map V.int).length - 1 - i]'(by rw [List.length_map]; omega), sq H O k, List.getElem?_eq_getElem _⟩
        · rw [List.length_reverse, List.length_map] at hi
          show (ns.map V.int).length ≤ i
          rw [List.length_map]; exact hi
        · obtain ⟨rfl, hx⟩ := hy
          have hi : i < (ns.map PV.int).length := by
            have := (List.getElem?_eq_some_iff.mp hp).1
            simpa using this
          rw [rev_ix hi] at hp
          have hx := hx _ (sq _ O k)
          rw [List.length_map] at hx hp
          rw [List.getElem?_map] at hp hx
          cases hn : ns[ns.length - 1 - i]? with
          | none => rw [hn] at hp; cases hp
          | some n =>
            rw [hn] at hp hx
            cases hp; cases hx
            exact ⟨Same.refl _, .int n⟩
      | _ => cases hl
    | _ => exact False.elim
/-- lo, lo + 1, .. -/
def rngL (lo : Int) (n : Nat) : List PV := (List.range n).map fun (i : Nat) => PV.int (lo + i)
theorem rngL_len (lo : Int) (n : Nat) : (rngL lo n).length = n := by unfold rngL; rw [List.length_map, List.length_range]
theorem rng_it (lo : Int) (n : Nat) (O1 : Addr → Prop) (H1 : Hp) : ItOk K (Itr lo n) (rngL lo n) O1 H1 := by
  refine ⟨fun i H O k hi => by rw [rngL_len] at hi; exact hi, fun i H O k hi => by rw [rngL_len] at hi; exact hi, fun i H O x H' p k _ hp hy => ?_⟩
  obtain ⟨rfl, rfl⟩ := hy
  unfold rngL at hp
  rw [List.getElem?_map] at hp
  cases hn : (List.range n)[i]? with
  | none => rw [hn] at hp; cases hp
  | some j =>
    rw [hn] at hp
    obtain ⟨h1, h2⟩ := List.getElem?_eq_some_iff.mp hn
    rw [List.getElem_range] at h2
    cases hp
    rw [h2]
    exact ⟨Same.refl _, .int _⟩
def inR (i : Int) : Bool := decide (-(2 ^ 62) ≤ i) && decide (i < 2 ^ 62)
theorem inR_iff {i : Int} : inR i = true ↔ -(2 ^ 62) ≤ i ∧ i < 2 ^ 62 := by unfold inR; rw [Bool.and_eq_true, decide_eq_true_eq, decide_eq_true_eq]
def rng1 : List PV → R (List PV)
  | [.int j] => if inR j = true then .ok (rngL 0 j.toNat) else .stuck
  | _ => .stuck
def rng2 : List PV → R (List PV)
  | [.int i, .int j] => .ok (rngL i (j - i).toNat)
  | _ => .stuck
def iR (g : List PV → R (List PV)) (f : Rho → R (List PV)) : Rho → R (List PV) := fun ρ => (f ρ).bind g
theorem i_rng1 (mg : X.mg "range" = none) (hg : Gl X "range") (ha : AJ X W .t [e] fA) (hs : starEach [e] X.env = [(false, eval e X.env)] := by rfl) : IJ X W tg (.Call (.Name "range" p) [e] [] pos) (iR rng1 fA) := by
  refine pi_imp (pi_range1 hg mg ha hs) fun σ H Q ⟨H0, O0, ρ, S, G⟩ => ⟨H0, O0, ρ, S, ?_⟩
  revert G
  unfold iR
  cases fA ρ with
  | stuck => exact False.elim
  | exc c => exact fun G => G
  | ok ps =>
    intro G vs H1 s1 r1
    rw [R.bind_ok] at G
    unfold rng1 at G
    split at G
    · split at G
      · rename_i hz
        obtain ⟨v, rfl, r2⟩ := pr1 r1
        rw [rt_int r2]
        obtain ⟨z1, z2⟩ := inR_iff.mp hz
        exact ⟨_, rfl, z1, z2, G _ _ s1 (rng_it _ _ _ _)⟩
      · exact G.elim
    · exact G.elim
/-- a range of any numbers, walked by the iterator for great ones -/
theorem turn_long {P : Program} {w : World} {K : PySem.W.Frag} {tg : Expr} (z : Addr) (lo : Int) (n : Nat) : Turn P w K tg (Itr lo n) [z] z (fun j g => IsLongIter g z (lo + (j : Nat) * 1) ((n : Int) - (j : Nat)) 1) := by
  have here : z ∈ [z] := List.mem_singleton.mpr rfl
  refine ⟨here, fun j g hg b hb => ?_, fun j g g' hg k => k z here _ hg, ?_, ?_, fun _ _ _ _ _ hg q => wpAny_pyIter_longiter hg q⟩
  · cases List.mem_singleton.mp hb
    exact ⟨_, hg, fun v e => nomatch e⟩
  · rintro X rfl rfl rfl calm j pins u σ H E inv fresh hg lt
    have fr := fresh z here
    refine (Walks.longrange (prog := X.prog) (w := X.w) (inv.ok.hd calm) z lo 1 n).item j u _ _ lt hg fun v g tk hv hg' same => ?_
    obtain ⟨t, rfl⟩ := hv
    have inv' : Inv X pins σ H { u with heap := g, toks := tk } := inv.turned (fun b o hb e => same b o (fun hm => hb (List.mem_singleton.mp hm)) e) fr.1 fr.2.1 fr.2.2.2.1 fr.2.2.2.2.1 fr.2.2.2.2.2
    exact ⟨_, rfl, go_of (s := { u with heap := g, toks := tk }) (n := "longrange_iterator") hg' rfl rfl (by decide) ⟨.int (lo + j), H, inv', ⟨t, by rw [Int.mul_one]⟩, ⟨rfl, rfl⟩, hg', fun b hb => (fresh b hb).1⟩⟩
  · rintro X rfl rfl rfl calm j pins u σ H E inv fresh hg le
    have fr := fresh z here
    have le : n ≤ j := le
    exact wpAny_pyNext_long_end (inv.ok.hd calm) hg (by omega) fun g eb => ⟨rfl, inv.turned (t' := u.toks) (fun b o hb e => eb b o hb e) fr.1 fr.2.1 fr.2.2.2.1 fr.2.2.2.2.1 fr.2.2.2.2.2⟩
theorem range_any {pins : List (Addr × Obj)} {σ : St} {H : Hp} {u : Shared} {R : It → Hp → Prop} {E : Value → Shared → Prop} {i j : Int} {t1 t2 t3 : Tok} {tk : Nat} (inv : Inv X pins σ H u) (q : R (Itr i (j - i).toNat) H) :
    wpAny (model X.prog X.w) X.A (pyIter (.ref u.heap.objs.size)) (PIE X pins σ tg R) E { u with heap := u.heap.push { cls := .type "range", data := .fields #[.int i t1, .int j t2, .int 1 t3] }, toks := tk } := by
  have inv' : Inv X pins σ H { u with heap := u.heap.push { cls := .type "range", data := .fields #[.int i t1, .int j t2, .int 1 t3] }, toks := tk } := inv.kept fun b o e => Heap.get?_push_of_some _ e
  have many : (((j - i).toNat : Nat) : Int) - ((0 : Nat) : Int) = Builtin.Range.rangeSize i j 1 := by rw [rangeSize_one]; split <;> omega
  have first : i + ((0 : Nat) : Int) * 1 = i := by simp
  cases sm : Builtin.Range.small i j 1 with
  | true =>
    refine wpAny_pyIter_range (IsRange.new ..) sm (pi_one inv' _ (turn_range _ i (j - i).toNat) ?_ q)
    show IsRangeIter _ _ (i + ((0 : Nat) : Int) * 1) ((((j - i).toNat : Nat) : Int) - ((0 : Nat) : Int)) 1
    rw [first, many]; exact Heap.get?_push_size _ rfl
  | false =>
    refine wpAny_pyIter_longrange (IsRange.new ..) sm (pi_one inv' _ (turn_long _ i (j - i).toNat) ?_ q)
    show IsLongIter _ _ (i + ((0 : Nat) : Int) * 1) ((((j - i).toNat : Nat) : Int) - ((0 : Nat) : Int)) 1
    rw [first, many]; exact Heap.get?_push_size _ rfl
def iRngA (ta : TA) : TI := fun σ H R => ta σ H fun vs H' => ∃ i j : Int, vs = [.int i, .int j] ∧ R (Itr i (j - i).toNat) H'
theorem pi_rangeA {a b : Expr} {ta : TA} {p pos : Pos} (hg : Gl X "range") (hm : X.mg "range" = none) (ha : PA X [a, b] ta) (h1 : starEach [a, b] X.env = [(false, eval a X.env), (false, eval b X.env)] := by rfl) (h2 : starEach [b] X.env = [(false, eval b X.env)] := by rfl) :
    PI X tg (.Call (.Name "range" p) [a, b] [] pos) (iRngA ta) := by
  refine ⟨fun pins u σ H R inv hw => Call_ (ld_blt inv hg hm boot_range (PyProof.Rows.callWith_type1 (thn (ha.run pos pins u σ H _ inv hw) ?_) (by rw [h1, h2]) (by rw [h2]; rfl)))⟩
  rintro us u1 ⟨vs, H1, inv1, rel, i, j, rfl, q⟩
  cases rel with
  | cons ri rel => cases rel with
    | cons rj rel =>
      cases rel
      obtain ⟨t1, rfl⟩ := ri
      obtain ⟨t2, rfl⟩ := rj
      exact call_range_2 (range_any inv1 q)
theorem i_rng2 (mg : X.mg "range" = none) (hg : Gl X "range") (ha : AJ X W .t [e, e'] fA) (hs : starEach [e, e'] X.env = [(false, eval e X.env), (false, eval e' X.env)] := by rfl) (hs2 : starEach [e'] X.env = [(false, eval e' X.env)] := by rfl) : IJ X W tg (.Call (.Name "range" p) [e, e'] [] pos) (iR rng2 fA) := by
  refine pi_imp (pi_rangeA hg mg ha hs hs2) fun σ H Q ⟨H0, O0, ρ, S, G⟩ => ⟨H0, O0, ρ, S, ?_⟩
  revert G
  unfold iR
  cases fA ρ with
  | stuck => exact False.elim
  | exc c => exact fun G => G
  | ok ps =>
    intro G vs H1 s1 r1
    rw [R.bind_ok] at G
    unfold rng2 at G
    split at G
    · obtain ⟨v, w, rfl, r2, r3⟩ := pr2 r1
      rw [rt_int r2, rt_int r3]
      exact ⟨_, _, rfl, G _ _ s1 (rng_it _ _ _ _)⟩
    · exact G.elim
/-- range(i, j, -1) -/
def rngDn (lo : Int) (n : Nat) : List PV := (List.range n).map fun (i : Nat) => PV.int (lo - i)
theorem rngDn_len (lo : Int) (n : Nat) : (rngDn lo n).length = n := by unfold rngDn; rw [List.length_map, List.length_range]
theorem rngDn_it (lo : Int) (n : Nat) (O1 : Addr → Prop) (H1 : Hp) : ItOk K (Itc lo (-1) n) (rngDn lo n) O1 H1 := by
  refine ⟨fun i H O k hi => by rw [rngDn_len] at hi; exact hi, fun i H O k hi => by rw [rngDn_len] at hi; exact hi, fun i H O x H' p k _ hp hy => ?_⟩
  obtain ⟨rfl, rfl⟩ := hy
  unfold rngDn at hp
  rw [List.getElem?_map] at hp
  cases hn : (List.range n)[i]? with
  | none => rw [hn] at hp; cases hp
  | some j =>
    rw [hn] at hp
    obtain ⟨h1, h2⟩ := List.getElem?_eq_some_iff.mp hn
    rw [List.getElem_range] at h2
    cases hp
    rw [h2, show lo + (j : Int) * -1 = lo - j by omega]
    exact ⟨Same.refl _, .int _⟩
def rng3 : List PV → R (List PV)
  | [.int i, .int j, .int c] => if (inR i && inR j && decide (c = -1)) = true then .ok (rngDn i (i - j).toNat) else .stuck
  | _ => .stuck
theorem i_rng3 (mg : X.mg "range" = none) (hg : Gl X "range") (ha : AJ X W .t [e, e', e''] fA) (hs : starEach [e, e', e''] X.env = (false, eval e X.env) :: starEach [e', e''] X.env := by rfl) (hpl : (backTo pos (starEach [e', e''] X.env)).any (·.1) = false := by rfl) : IJ X W tg (.Call (.Name "range" p) [e, e', e''] [] pos) (iR rng3 fA) := by
  refine pi_imp (pi_range3 hg mg ha hs hpl) fun σ H Q ⟨H0, O0, ρ, S, G⟩ => ⟨H0, O0, ρ, S, ?_⟩
  revert G
  unfold iR
  cases fA ρ with
  | stuck => exact False.elim
  | exc c => exact fun G => G
  | ok ps =>
    intro G vs H1 s1 r1
    rw [R.bind_ok] at G
    unfold rng3 at G
    split at G
    · split at G
      · rename_i hz
        rw [Bool.and_eq_true, Bool.and_eq_true, decide_eq_true_eq] at hz
        obtain ⟨⟨h1, h2⟩, rfl⟩ := hz
        obtain ⟨z1, z2⟩ := inR_iff.mp h1
        obtain ⟨z3, z4⟩ := inR_iff.mp h2
        cases r1 with
        | cons ra r1 => cases r1 with
          | cons rb r1 => cases r1 with
            | cons rc r1 =>
              cases r1
              rw [rt_int ra, rt_int rb, rt_int rc]
              exact ⟨_, _, _, _, rfl, RgC.neg z1 z2 z3 z4, G _ _ s1 (rngDn_it _ _ _ _)⟩
      · exact G.elim
    · exact G.elim
/-- enumerate(list) -/
def enumL : Nat → List PV → List PV
  | _, [] => []
  | n, p :: ps => .tup [.int (n : Nat), p] :: enumL (n + 1) ps
theorem enumL_len : ∀ (n : Nat) (l : List PV), (enumL n l).length = l.length
  | _, [] => rfl
  | n, p :: ps => by unfold enumL; rw [List.length_cons, List.length_cons, enumL_len]
theorem enumL_get : ∀ (n : Nat) (l : List PV) (i : Nat), (enumL n l)[i]? = (l[i]?).map fun p => .tup [.int ((n + i : Nat) : Int), p]
  | _, [], _ => rfl
  | n, p :: ps, 0 => rfl
  | n, p :: ps, i + 1 => by
    unfold enumL
    rw [List.getElem?_cons_succ, List.getElem?_cons_succ, enumL_get (n + 1) ps i]
    rw [show n + 1 + i = n + (i + 1) by omega]
def iEn (f : Rho → R PV) : Rho → R (List PV) := fun ρ => (f ρ).bind fun p => (match p with
  | .lst l => .ok (enumL 0 l)
  | _ => .stuck)
theorem i_enum {elts : List Expr} {kk : Nat} {tpos : Pos} (mg : X.mg "enumerate" = none) (hg : Gl X "enumerate") (he : EJ X W .s e f) (hs1 : starEach [e] X.env = (false, eval e X.env) :: starEach [] X.env := by rfl) (hs : starEach [e] X.env = [(false, eval e X.env)] := by rfl) : IJ X W (.Tuple elts kk tpos) (.Call (.Name "enumerate" p) [e] [] pos) (iEn f) := by
  refine pi_imp (pi_enum hg mg (pa_cons he pa_nil hs1) hs) fun σ H Q ⟨H0, O0, ρ, S, G⟩ => ⟨H0, O0, ρ, S, ?_⟩
  revert G
  unfold iEn
  cases hf : f ρ with
  | stuck => exact False.elim
  | exc c => exact fun G => G
  | ok p =>
    cases p with
    | lst l =>
      intro G v H1 s1 r1
      cases (show Rep X.K H1 (OO O0 σ ρ) v (.lst l) from r1) with
      | @lst a vs _ h n r =>
        refine ⟨a, vs, rfl, .inl (.inl h), G _ _ s1 ⟨fun i H O k hi => ?_, fun i H O k hi => ⟨vs, .inl (.inl (k _ _ h n).1), by rw [enumL_len] at hi; rw [r.length]; exact hi⟩, fun i H O x H' p k al hp hy => ?_⟩⟩
        · rw [enumL_len] at hi
          obtain ⟨v, hv, _⟩ := r.get (List.getElem?_eq_getElem hi)
          exact ⟨vs, v, .inl (.inl (k _ _ h n).1), hv⟩
        · obtain ⟨T, y, rfl, hT, rfl, hx⟩ := hy
          obtain ⟨q, hq, rq⟩ := r.get' (hx vs (.inl (.inl (k _ _ h n).1)))
          rw [enumL_get, hq] at hp
          cases hp
          rw [Nat.zero_add]
          exact ⟨same_new hT, .tup (.inl ⟨upd_same, fun z => al T z hT⟩) (.cons (.int _) (.cons ((kept_reps k rq).same (same_new hT)) .nil))⟩
    | _ => exact False.elim
end
def GotG (K : PySem.W.Frag) (H0 : Hp) (O0 : Addr → Prop) (H : Hp) (ts : List Nat) (σ : St) (ρ : Rho) (Q : St → Hp → Prop) : Option Rho → Prop
  | some ρ' => ∀ σ', StR K H0 O0 H σ' ρ' → (∀ a, OO O0 σ' ρ' a → OO O0 σ ρ a) → σ'.length = σ.length → (∀ (i : Nat), i ∉ ts → σ'[i]? = σ[i]? ∧ ρ'[i]? = ρ[i]?) → Q σ' H
  | none => False
def tG (K : PySem.W.Frag) (ts : List Nat) (h : PV → Rho → Option Rho) : TG := fun v σ H Q => ∃ H0 O0 ρ p, StR K H0 O0 H σ ρ ∧ Rep K H (OO O0 σ ρ) v p ∧ GotG K H0 O0 H ts σ ρ Q (h p ρ)
abbrev GJ (X : Cx) (tg : Expr) (ts : List Nat) (h : PV → Rho → Option Rho) : Prop := PG X tg (tG X.K ts h)
theorem pg_imp {X : Cx} {tg : Expr} {t t' : TG} (h : PG X tg t) (q : ∀ v σ H Q, t' v σ H Q → t v σ H Q) : PG X tg t' := ⟨fun pins s σ H v u Q I r hw => h.run pins s σ H v u Q I r (q v σ H Q hw)⟩
theorem pgs_imp {X : Cx} {tg : List Expr} {t t' : TGs} (h : PGs X tg t) (q : ∀ v σ H Q, t' v σ H Q → t v σ H Q) : PGs X tg t' := ⟨fun pins s σ H v u Q I r hw => h.run pins s σ H v u Q I r (q v σ H Q hw)⟩
def gN (i : Nat) : PV → Rho → Option Rho := fun p ρ => some (ρ.set i (.val p))
theorem g_name {X : Cx} {tg : Expr} {i : Nat} (h : PG X tg (gName i)) : GJ X tg [i] (gN i) := by
  refine pg_imp h fun v σ H Q ⟨H0, O0, ρ, p, S, r, G⟩ => ?_
  exact G _ (S.set (s := .val p) (fun _ z => nomatch z) (fun q z => by cases z; exact ⟨v, rfl, r⟩)) (fun a z => OO.set_val (s := .val p) (fun _ z => nomatch z) z) (List.length_set ..) fun j hj => have n : i ≠ j := fun e => hj (by rw [e]; exact List.mem_cons_self); ⟨List.getElem?_set_ne n, List.getElem?_set_ne n⟩
/-- several targets -/
def tGs (K : PySem.W.Frag) (ts : List Nat) (h : List PV → Rho → Option Rho) : TGs := fun vs σ H Q => ∃ H0 O0 ρ ps, StR K H0 O0 H σ ρ ∧ Reps K H (OO O0 σ ρ) vs ps ∧ GotG K H0 O0 H ts σ ρ Q (h ps ρ)
abbrev GJs (X : Cx) (tg : List Expr) (ts : List Nat) (h : List PV → Rho → Option Rho) : Prop := PGs X tg (tGs X.K ts h)
def gsNil : List PV → Rho → Option Rho
  | [], ρ => some ρ
  | _, _ => none
def gsCons (g : PV → Rho → Option Rho) (h : List PV → Rho → Option Rho) : List PV → Rho → Option Rho
  | p :: ps, ρ => (g p ρ).bind (h ps)
  | [], _ => none
section
variable {X : Cx} {e : Expr} {es : List Expr} {g : PV → Rho → Option Rho} {h : List PV → Rho → Option Rho} {pos : Pos} {ts us : List Nat}
theorem gs_nil : GJs X [] [] gsNil := by
  refine pgs_imp pgs_nil fun vs σ H Q ⟨H0, O0, ρ, ps, S, r, G⟩ => ?_
  cases ps with
  | nil => cases r; exact ⟨rfl, G σ S (fun _ z => z) rfl fun _ _ => ⟨rfl, rfl⟩⟩
  | cons p ps => exact G.elim
theorem gs_cons (h1 : GJ X e ts g) (h2 : GJs X es us h) (hs : (assignEach (e :: es) X.env).map (·.2) = assign e X.env :: (assignEach es X.env).map (·.2) := by rfl) : GJs X (e :: es) (ts ++ us) (gsCons g h) := by
  refine pgs_imp (pgs_cons h1 h2 hs) fun vs σ H Q ⟨H0, O0, ρ, ps, S, r, G⟩ => ?_
  cases r with
  | nil => exact G.elim
  | @cons v vs p ps r1 r2 =>
    refine ⟨v, vs, rfl, H0, O0, ρ, p, S, r1, ?_⟩
    have G' : GotG X.K H0 O0 H (ts ++ us) σ ρ Q ((g p ρ).bind (h ps)) := G
    revert G'
    cases g p ρ with
    | none => exact False.elim
    | some ρ1 =>
      intro G' σ1 S1 l1 e1 k1
      exact ⟨H0, O0, ρ1, ps, S1, r2.less l1, by
        revert G'
        rw [Option.bind_some]
        cases h ps ρ1 with
        | none => exact fun G => G
        | some ρ2 => exact fun G' σ2 S2 l2 e2 k2 => G' σ2 S2 (fun a z => l1 a (l2 a z)) (e2.trans e1) fun i hi => have a := k2 i fun z => hi (List.mem_append_right _ z); have b := k1 i fun z => hi (List.mem_append_left _ z); ⟨a.1.trans b.1, a.2.trans b.2⟩⟩
theorem draw_l {prog : Program} {w : World} {A : Around} {E : Value → Shared → Prop} {it l : Addr} {xs : Array Value} (ne : l ≠ it) : ∀ (k j : Nat) (u : Shared) (R : List Value → Shared → Prop), u.heap.IsListIter it l j → u.heap.IsList l xs → j + k ≤ xs.size →
    (∀ g, g.IsListIter it l (j + k) → Heap.SameBut it u.heap g → R ((xs.toList.drop j).take k) { u with heap := g }) → wpAny (model prog w) A (draw (.ref it) k) R E u
  | 0, j, u, R, _, _, _, q => wpAny_pure (by simpa using q u.heap (by simpa) (Heap.SameBut.refl ..))
  | k + 1, j, u, R, hi, hl, hs, q => by
    have lt : j < xs.size := by omega
    show wpAny (model prog w) A (pyNext (.ref it) >>= _) R E u
    refine wpAny_bind (wpAny_pyNext_list_item hi hl (x := xs[j]) (by simp [lt]) fun g1 i1 b1 => ?_)
    refine wpAny_bind (wpAny_holding (draw_l ne k (j + 1) _ _ i1 (hl.extBut b1.extBut ne) (by omega) fun g2 i2 b2 => wpAny_pure ?_))
    have z := q g2 (by rw [show j + (k + 1) = j + 1 + k by omega]; exact i2) (b1.trans b2)
    rw [show xs.toList.drop j = xs[j] :: xs.toList.drop (j + 1) by simp [List.drop_eq_getElem_cons, lt], List.take_succ_cons] at z
    exact z
theorem unp_l {prog : Program} {w : World} {A : Around} {E : Value → Shared → Prop} {u : Shared} {l : Addr} {xs : Array Value} {R : List Value → Shared → Prop} (hh : A.handled = none) (hl : u.heap.IsList l xs)
    (q : ∀ g, Heap.ExtBut u.heap.objs.size u.heap g → R xs.toList { u with heap := g }) : wpAny (model prog w) A (unpackItems (.ref l) xs.size none) R E u := by
  have ne : l ≠ u.heap.objs.size := by obtain ⟨o, ho, _⟩ := hl; exact Nat.ne_of_lt (Heap.lt_size ho)
  unfold unpackItems
  refine wpAny_bind ?_
  unfold notIterableAtAll
  refine wpAny_bind (wpAny_specialOf hl.typeIs slot_list_iter.lookup (wpAny_pure ?_))
  simp only [Bool.false_eq_true, if_false]
  refine wpAny_bind (wpAny_holding (wpAny_pyIter_list hl ?_))
  have h1 := hl.push { cls := .type "list_iterator", data := .fields #[.ref l, .int 0 0] }
  refine wpAny_bind (wpAny_holding (draw_l ne xs.size 0 _ _ ⟨_, Heap.get?_push_size _ rfl, rfl, rfl⟩ h1 (by omega) fun g1 i1 b1 => ?_))
  rw [show List.take xs.size (List.drop 0 xs.toList) = xs.toList by rw [List.drop_zero]; exact List.take_of_length_le (by simp)]
  rw [if_neg (by simp)]
  refine wpAny_bind (wpAny_holding (wpAny_pyNext_list_end hh i1 (h1.extBut b1.extBut ne) (by simp) fun g2 e2 => ?_))
  simp only [Option.isSome_none, Bool.false_eq_true, if_false]
  exact wpAny_pure (q g2 fun b o hb e => e2 b o hb (b1.extBut b o hb (Heap.get?_push_of_some _ e)))
def gSq (K : PySem.W.Frag) (n : Nat) (t : TGs) : TG := fun v σ H Q => ∃ a xs, v = .ref a ∧ (SqT K H a xs ∨ SqL K H a xs) ∧ xs.length = n ∧ t xs σ H Q
theorem pg_sq {X : Cx} {es : List Expr} {k n : Nat} {pos : Pos} {t : TGs} (hc : X.calm = true) (h : PGs X es t) (hn : (assignEach es X.env).length = n := by rfl) (hst : (assignEach es X.env).findIdx? (·.1) = none := by rfl) : PG X (.Tuple es k pos) (gSq X.K n t) := by
  refine ⟨fun pins s σ H v u Q I r g => ?_⟩
  obtain ⟨a, xs, e, hq | hq, hl, hw⟩ := g
  · exact (pg_tup hc h hn hst).run pins s σ H v u Q I r ⟨a, xs, e, hq, hl, hw⟩
  · subst e
    cases r
    obtain ⟨its, rv, pl, hz⟩ := I.list hq
    rw [assign_Tuple]
    refine wpAny_bind (wpAny_standAt ?_)
    unfold unpack
    have hsz : (assignEach es X.env).length = its.toArray.size := by simp [hn, ← hl, rv.length]
    rw [hsz, hst]
    refine wpAny_bind (wpAny_holding (unp_l (I.ok.hd hc) pl.isList fun g eb => ?_))
    have J : Inv X pins σ H { s with heap := g } := I.kept (t' := s.toks) fun b o e => eb b o (Nat.ne_of_lt (Heap.lt_size e)) e
    exact h.run pins _ σ H xs _ Q J (by simpa using rv) hw
def gT (h : List PV → Rho → Option Rho) : PV → Rho → Option Rho
  | .tup ps, ρ => h ps ρ
  | .lst ps, ρ => h ps ρ
  | _, _ => none
theorem g_tup {k n : Nat} (hc : X.calm = true) (h1 : GJs X es ts h) (hl : ∀ ps ρ ρ', h ps ρ = some ρ' → ps.length = n) (hn : (assignEach es X.env).length = n := by rfl) (hst : (assignEach es X.env).findIdx? (·.1) = none := by rfl) : GJ X (.Tuple es k pos) ts (gT h) := by
  refine pg_imp (pg_sq hc h1 hn hst) fun v σ H Q ⟨H0, O0, ρ, p, S, r, G⟩ => ?_
  have len : ∀ (ps : List PV), GotG X.K H0 O0 H ts σ ρ Q (h ps ρ) → ps.length = n := fun ps G' => by
    revert G'
    cases hh : h ps ρ with
    | none => exact False.elim
    | some ρ' => exact fun _ => hl ps ρ ρ' hh
  cases p with
  | tup ps =>
    cases r with
    | @tup a vs _ ha r => exact ⟨a, vs, rfl, .inl (sqT_of ha), by rw [r.length]; exact len ps G, H0, O0, ρ, ps, S, r, G⟩
  | lst ps =>
    cases r with
    | @lst a vs _ ha hn r => exact ⟨a, vs, rfl, .inr (.inl (.inl ha)), by rw [r.length]; exact len ps G, H0, O0, ρ, ps, S, r, G⟩
  | _ => exact G.elim
theorem gs_len : ∀ {n : Nat} {g : PV → Rho → Option Rho} {h : List PV → Rho → Option Rho}, (∀ ps ρ ρ', h ps ρ = some ρ' → ps.length = n) → ∀ ps ρ ρ', gsCons g h ps ρ = some ρ' → ps.length = n + 1 := by
  intro n g h hl ps ρ ρ' e
  cases ps with
  | nil => cases e
  | cons p ps =>
    have e' : (g p ρ).bind (h ps) = some ρ' := e
    cases hg : g p ρ with
    | none => rw [hg] at e'; cases e'
    | some ρ1 =>
      rw [hg, Option.bind_some] at e'
      rw [List.length_cons, hl ps ρ1 ρ' e']
theorem gs_len0 : ∀ ps ρ ρ', gsNil ps ρ = some ρ' → ps.length = 0 := by
  intro ps ρ ρ' e
  cases ps with
  | nil => rfl
  | cons p ps => cases e
end
end PL
set_option Elab.async false
set_option linter.all false
set_option maxRecDepth 100000
set_option autoImplicit false
namespace PL
open PySem PySem.Spec L2
open PyProof.Rows hiding St
def wipeR (ρ : Rho) : List Nat → Rho
  | [] => ρ
  | v :: vs => (wipeR ρ vs).set v .un
def notOwn (ρ : Rho) (v : Nat) : Bool := match ρ[v]? with
  | some (.own _) => false
  | _ => true
theorem wipe_get (σ : St) : ∀ (vs : List Nat) (i : Nat), (wipe σ vs)[i]? = if i ∈ vs then (if i < σ.length then some none else none) else σ[i]?
  | [], i => by simp [wipe]
  | v :: vs, i => by
    unfold wipe
    by_cases e : v = i
    · subst e
      rw [if_pos List.mem_cons_self]
      by_cases h : v < σ.length
      · rw [if_pos h, List.getElem?_set_self (by rw [wipe_length]; exact h)]
      · rw [if_neg h, List.getElem?_eq_none (by rw [List.length_set, wipe_length]; omega)]
    · rw [List.getElem?_set_ne e, wipe_get σ vs i]
      have : i ∈ v :: vs ↔ i ∈ vs := by
        rw [List.mem_cons]
        exact ⟨fun z => z.elim (fun z => absurd z.symm e) id, .inr⟩
      simp only [this]
theorem wipe_back {σ σ2 : St} {vs : List Nat} (hl : σ2.length = (wipe σ vs).length) (h : ∀ (i : Nat), i ∉ vs → σ2[i]? = (wipe σ vs)[i]?) : wipe σ2 vs = wipe σ vs := by
  refine List.ext_getElem? fun i => ?_
  rw [wipe_get σ2 vs i]
  by_cases hi : i ∈ vs
  · rw [if_pos hi, hl, wipe_length, wipe_get σ vs i, if_pos hi]
  · rw [if_neg hi, h i hi]
theorem wipe_st {K : PySem.W.Frag} {H0 H : Hp} {O0 : Addr → Prop} {σ : St} {ρ : Rho} (S : StR K H0 O0 H σ ρ) : ∀ vs : List Nat, StR K H0 O0 H (wipe σ vs) (wipeR ρ vs) ∧ ∀ a, OO O0 (wipe σ vs) (wipeR ρ vs) a → OO O0 σ ρ a
  | [] => ⟨S, fun _ z => z⟩
  | v :: vs => by
    obtain ⟨S1, l1⟩ := wipe_st S vs
    exact ⟨S1.set (s := .un) (fun _ z => nomatch z) (fun _ z => nomatch z), fun a z => l1 a (OO.set_val (s := .un) (fun _ z => nomatch z) z)⟩
theorem wipeR_get (ρ : Rho) : ∀ (vs : List Nat) (i : Nat), i ∉ vs → (wipeR ρ vs)[i]? = ρ[i]?
  | [], i, _ => rfl
  | v :: vs, i, h => by
    rw [List.mem_cons, not_or] at h
    unfold wipeR
    rw [List.getElem?_set_ne (Ne.symm h.1), wipeR_get ρ vs i h.2]
theorem wipe_oo {O0 : Addr → Prop} {σ : St} {ρ : Rho} {vs : List Nat} (hn : vs.all (notOwn ρ) = true) {a : Addr} (h : OO O0 σ ρ a) : OO O0 (wipe σ vs) (wipeR ρ vs) a := by
  rcases h with h | ⟨i, ps, h1, h2⟩
  · exact .inl h
  · have hi : i ∉ vs := fun hi => by
      have := List.all_eq_true.mp hn i hi
      unfold notOwn at this
      rw [h1] at this
      cases this
    exact .inr ⟨i, ps, by rw [wipeR_get ρ vs i hi]; exact h1, by rw [wipe_get, if_neg hi]; exact h2⟩
/-- what the turns make of the items -/
def lcGo (tgt : PV → Rho → Option Rho) (test : Rho → R Bool) (elt : Rho → R PV) (ρ : Rho) : List PV → R (List PV)
  | [] => .ok []
  | p :: ps => match tgt p ρ with
    | none => .stuck
    | some ρ1 => match test ρ1 with
      | .ok true => (match elt ρ1 with
        | .ok q => (match lcGo tgt test elt ρ ps with
          | .ok qs => .ok (q :: qs)
          | _ => .stuck)
        | _ => .stuck)
      | .ok false => lcGo tgt test elt ρ ps
      | _ => .stuck
def eLc (vs : List Nat) (it : Rho → R (List PV)) (tgt : PV → Rho → Option Rho) (test : Rho → R Bool) (elt : Rho → R PV) : Rho → R PV := fun ρ =>
  if vs.all (notOwn ρ) = true then (it ρ).bind fun items => if items.length ≤ sizeLine then (match lcGo tgt test elt (wipeR ρ vs) items with
    | .ok qs => .ok (.lst qs)
    | _ => .stuck) else .stuck
  else .stuck
abbrev CJ (X : Cx) (W : WX) (ifs : List Expr) (f : Rho → R Bool) : Prop := PTs X ifs (tT X.K X.mg W f)
def cYes : Rho → R Bool := fun _ => .ok true
abbrev WF : WX := fun _ _ _ _ => False
section
variable {X : Cx} {W : WX} {e tg it : Expr} {pos : Pos} {f g h : Rho → R PV}
theorem c_nil : CJ X W [] cYes := by
  refine ⟨fun pins s σ H Q I ⟨H0, O0, ρ, S, G⟩ => pts_nil.run pins s σ H Q I (G H (Same.refl H))⟩
theorem c_one {c : Expr} {t : Rho → R Bool} (h : TJ X W c t) : CJ X W [c] t := pts_one h
theorem bump {K : PySem.W.Frag} {H0 H : Hp} {O0 : Addr → Prop} {σ : St} {ρ : Rho} {D : Addr} {o : HO} (S : StR K H0 O0 H σ ρ) (hD : O0 D) (h0 : H0 D = none) : StR K H0 O0 (upd H D o) σ ρ := by
  have k : ∀ a u, H a = some u → ¬ OO O0 σ ρ a → upd H D o a = some u ∧ ¬ OO O0 σ ρ a := fun a u h n => ⟨by rw [upd_ne (fun z => n (by rw [z]; exact .inl hD))]; exact h, n⟩
  refine ⟨S.len, fun b x h => by rw [upd_ne (fun z => by rw [z, h0] at h; cases h)]; exact S.same b x h, fun a h => ?_, fun i ps h => ?_, S.dis, fun i p h => ?_, S.exs⟩
  · by_cases e : a = D
    · rw [e, upd_same]; exact fun z => nomatch z
    · rw [upd_ne e]; exact S.all0 a h
  · obtain ⟨a, vs, e1, e2, e3, e4, e5⟩ := S.own i ps h
    exact ⟨a, vs, e1, by rw [upd_ne (fun z => e4 (by rw [z]; exact hD))]; exact e2, e3, e4, e5.mono k⟩
  · obtain ⟨v, e1, e2⟩ := S.val i p h
    exact ⟨v, e1, e2.mono k⟩
/-- another address is forbidden: one that is new -/
theorem forbid {K : PySem.W.Frag} {H0 H : Hp} {O0 : Addr → Prop} {σ : St} {ρ : Rho} {D : Addr} {o : HO} (S : StR K H0 O0 H σ ρ) (hD : H D = none) : StR K H0 (fun b => O0 b ∨ b = D) (upd H D o) σ ρ := by
  have oo : ∀ a, OO (fun b => O0 b ∨ b = D) σ ρ a → OO O0 σ ρ a ∨ a = D := fun a z => by
    rcases z with (z | z) | z
    · exact .inl (.inl z)
    · exact .inr z
    · exact .inl (.inr z)
  have k : ∀ a u, H a = some u → ¬ OO O0 σ ρ a → upd H D o a = some u ∧ ¬ OO (fun b => O0 b ∨ b = D) σ ρ a := fun a u h n => ⟨same_new hD a u h, fun z => (oo a z).elim n (ne_of_none h hD)⟩
  refine ⟨S.len, fun b x h => same_new hD b x (S.same b x h), fun a h => ?_, fun i ps h => ?_, S.dis, fun i p h => ?_, S.exs⟩
  · rcases h with h | h
    · cases q : H a with
      | none => exact absurd q (S.all0 a h)
      | some u => rw [same_new hD a u q]; exact fun z => nomatch z
    · rw [h, upd_same]; exact fun z => nomatch z
  · obtain ⟨a, vs, e1, e2, e3, e4, e5⟩ := S.own i ps h
    exact ⟨a, vs, e1, same_new hD _ _ e2, e3, fun z => z.elim e4 (ne_of_none e2 hD), e5.mono k⟩
  · obtain ⟨v, e1, e2⟩ := S.val i p h
    exact ⟨v, e1, e2.mono k⟩
theorem lc_run {wi : Rho → R (List PV)} {tgt : PV → Rho → Option Rho} {test : Rho → R Bool} {elt : Rho → R PV} {vs ts : List Nat} (hts : ∀ i ∈ ts, i ∈ vs) {K : PySem.W.Frag} {mg : Str → Option Value} :
    ∀ σ H Q, tE K mg W .f (eLc vs wi tgt test elt) σ H Q → tLc (tI K mg W wi) (tG K ts tgt) (tT K mg WF test) (tE K mg WF .s elt) vs σ H Q := by
  intro σ H Q ⟨H0, O0, ρ, S, G⟩
  refine ⟨H0, O0, ρ, S, ?_⟩
  revert G
  unfold eLc
  split
  · rename_i hn
    cases wi ρ with
    | stuck => exact False.elim
    | exc c => exact fun G => G
    | ok items =>
      rw [R.bind_ok]
      split
      · rename_i hz
        intro G J H1 s1 ok D hD
        cases hq : lcGo tgt test elt (wipeR ρ vs) items with
        | stuck => rw [hq] at G; exact G.elim
        | exc c => rw [hq] at G; exact absurd G (fun G => by exact (show False from G))
        | ok qs =>
          rw [hq] at G
          have S1 := S.step s1
          obtain ⟨S2, l2⟩ := wipe_st S1 vs
          have hH0 : H0 D = none := S1.same.free hD
          have S3 : StR K H0 (fun b => O0 b ∨ b = D) (upd H1 D (.lst [])) (wipe σ vs) (wipeR ρ vs) := forbid S2 hD
          have OD : OO (fun b => O0 b ∨ b = D) (wipe σ vs) (wipeR ρ vs) D := .inl (.inr rfl)
          have oo : ∀ a, OO (fun b => O0 b ∨ b = D) (wipe σ vs) (wipeR ρ vs) a → OO O0 σ ρ a ∨ a = D := fun a z => by
            rcases z with (z | z) | z
            · exact .inl (.inl z)
            · exact .inr z
            · exact .inl (l2 a (.inr z))
          refine ⟨fun i m Hc => m = items.length - i ∧ i ≤ items.length ∧ Same H1 Hc ∧ StR K H0 (fun b => O0 b ∨ b = D) Hc (wipe σ vs) (wipeR ρ vs) ∧
              ∃ ws ps rs, Hc D = some (.lst ws) ∧ Reps K Hc (OO (fun b => O0 b ∨ b = D) (wipe σ vs) (wipeR ρ vs)) ws ps ∧ ps.length ≤ i ∧ lcGo tgt test elt (wipeR ρ vs) (items.drop i) = .ok rs ∧ qs = ps ++ rs,
            ⟨items.length, by simp, Nat.zero_le _, same_new hD, S3, [], [], qs, upd_same, .nil, Nat.zero_le _, by rw [List.drop_zero]; exact hq, rfl⟩, ?_⟩
          rintro i m Hc ⟨rfl, hi, sc, Sc, ws, ps, rs, hDc, rc, hpl, hgo, hqs⟩
          have kept : Kept (OO O0 σ ρ) H1 (OO (fun b => O0 b ∨ b = D) (wipe σ vs) (wipeR ρ vs)) Hc := fun a o h n => ⟨sc a o h, fun z => (oo a z).elim n (ne_of_none h hD)⟩
          have alloc : ∀ a, OO (fun b => O0 b ∨ b = D) (wipe σ vs) (wipeR ρ vs) a → Hc a ≠ none := fun a z => Sc.there z
          by_cases hlt : i < items.length
          · refine .inr ⟨ok.go i Hc _ kept hlt, _, fun H' n => ⟨items.length - (i + 1), by omega, rfl, hlt, n⟩, fun x Hy hy => ?_⟩
            have hg : items[i]? = some items[i] := List.getElem?_eq_getElem hlt
            obtain ⟨sy, ry⟩ := ok.yld i Hc _ x Hy _ kept alloc hg hy
            have hdr : items.drop i = items[i] :: items.drop (i + 1) := List.drop_eq_getElem_cons hlt
            rw [hdr] at hgo
            refine ⟨H0, _, wipeR ρ vs, items[i], Sc.step sy, ry, ?_⟩
            unfold lcGo at hgo
            cases ht : tgt items[i] (wipeR ρ vs) with
            | none => rw [ht] at hgo; cases hgo
            | some ρ1 =>
              rw [ht] at hgo
              intro σ2 Sg lg eg kg
              refine ⟨wipe_back eg fun j hj => (kg j fun z => hj (hts j z)).1, H0, _, ρ1, Sg, ?_⟩
              have hgo : (match test ρ1 with
                | .ok true => (match elt ρ1 with
                  | .ok q => (match lcGo tgt test elt (wipeR ρ vs) (items.drop (i + 1)) with
                    | .ok qs => .ok (q :: qs)
                    | _ => .stuck)
                  | _ => .stuck)
                | .ok false => lcGo tgt test elt (wipeR ρ vs) (items.drop (i + 1))
                | _ => .stuck) = (.ok rs : R (List PV)) := hgo
              cases hte : test ρ1 with
              | stuck => rw [hte] at hgo; cases hgo
              | exc c => rw [hte] at hgo; cases hgo
              | ok b =>
                rw [hte] at hgo
                intro H3 s3
                cases b with
                | false =>
                  rw [if_neg Bool.false_ne_true]
                  have s13 := (sc.trans sy).trans s3
                  exact ⟨s13, Sc.step (sy.trans s3), ws, ps, rs, (sy.trans s3) _ _ hDc, rc.same (sy.trans s3), by omega, hgo, hqs⟩
                | true =>
                  rw [if_pos rfl]
                  refine ⟨H0, _, ρ1, Sg.step s3, ?_⟩
                  have hgo : (match elt ρ1 with
                    | .ok q => (match lcGo tgt test elt (wipeR ρ vs) (items.drop (i + 1)) with
                      | .ok qs => .ok (q :: qs)
                      | _ => .stuck)
                    | _ => .stuck) = (.ok rs : R (List PV)) := hgo
                  cases hel : elt ρ1 with
                  | stuck => rw [hel] at hgo; cases hgo
                  | exc c => rw [hel] at hgo; cases hgo
                  | ok q =>
                    rw [hel] at hgo
                    have hgo : (match lcGo tgt test elt (wipeR ρ vs) (items.drop (i + 1)) with
                      | .ok qs => .ok (q :: qs)
                      | _ => .stuck) = (.ok rs : R (List PV)) := hgo
                    cases hre : lcGo tgt test elt (wipeR ρ vs) (items.drop (i + 1)) with
                    | stuck => rw [hre] at hgo; cases hgo
                    | exc c => rw [hre] at hgo; cases hgo
                    | ok rs' =>
                      rw [hre] at hgo
                      cases hgo
                      intro y H4 s4 r4
                      have s34 := (sy.trans s3).trans s4
                      have r4 : Rep K H4 (OO (fun b => O0 b ∨ b = D) σ2 ρ1) y q := r4
                      refine ⟨ws, s34 _ _ hDc, by rw [rc.length]; omega, ?_⟩
                      have nD : ∀ {b : Addr} {o : HO} {O : Addr → Prop}, O D → H4 b = some o → ¬ O b → upd H4 D (.lst (ws ++ [y])) b = some o ∧ ¬ O b := fun {b o O} hO h n => ⟨by rw [upd_ne (fun z => n (by rw [z]; exact hO))]; exact h, n⟩
                      refine ⟨fun b o h => ?_, bump (Sc.step s34) (.inr rfl) hH0, ws ++ [y], ps ++ [q], rs', upd_same, ?_, by rw [List.length_append]; simp; omega, rfl, by rw [hqs, List.append_assoc]; rfl⟩
                      · rw [upd_ne (ne_of_none h hD)]; exact s34 _ _ (sc _ _ h)
                      · refine Reps.append ((rc.same s34).mono fun b o h n => nD OD h n) (.cons ?_ .nil)
                        refine r4.mono fun b o h n => ?_
                        have hb : b ≠ D := fun z => n (by rw [z]; exact .inl (.inr rfl))
                        refine ⟨by rw [upd_ne hb]; exact h, fun z => ?_⟩
                        rcases z with z | ⟨j, us, z1, z2⟩
                        · exact n (.inl z)
                        · have hj : j ∉ vs := fun hj => by
                            have z3 : (wipeR ρ vs)[j]? = some (.own us) := z1
                            have z4 : (wipe σ vs)[j]? = some (some (.ref b)) := z2
                            rw [wipe_get, if_pos hj] at z4
                            split at z4 <;> cases z4
                          have kj := kg j fun z => hj (hts j z)
                          exact n (.inr ⟨j, us, by rw [kj.2]; exact z1, by rw [kj.1]; exact z2⟩)
          · have e : i = items.length := by omega
            subst e
            rw [List.drop_length] at hgo
            cases hgo
            rw [List.append_nil] at hqs
            subst hqs
            refine .inl ⟨ok.stop _ Hc _ kept (Nat.le_refl _), G _ _ (s1.trans sc) ⟨D, ws, _, rfl, rfl, s1.free hD, hDc, rc.less fun a z => ?_⟩⟩
            rcases z with z | z
            · rcases wipe_oo hn z with z | z
              · exact .inl (.inl z)
              · exact .inr z
            · rw [z]; exact OD
      · exact False.elim
  · exact False.elim
variable {ifs : List Expr} {scope : Scope} {own : List (Str × Nat)} {wi : Rho → R (List PV)} {tgt : PV → Rho → Option Rho} {test : Rho → R Bool} {elt : Rho → R PV} {ts : List Nat}
theorem e_lc (hc : X.calm = true) (hN : X.N.Nodup) (hi : IJ X W tg it wi) (ok : BlkOk X.N X.env.scope scope own) (hts : ∀ i ∈ ts, i ∈ own.map (·.2))
    (hg : ∀ (s : Shared) (H : Hp) (C : Addr) (cl : List (Str × Addr)) (fp : List Addr), GJ (X.blk s H scope (compEnvC scope cl C X.env) fp) tg ts tgt)
    (ht : ∀ (s : Shared) (H : Hp) (C : Addr) (cl : List (Str × Addr)) (fp : List Addr), CJ (X.blk s H scope (compEnvC scope cl C X.env) fp) WF ifs test)
    (he : ∀ (s : Shared) (H : Hp) (C : Addr) (cl : List (Str × Addr)) (fp : List Addr), EJ (X.blk s H scope (compEnvC scope cl C X.env) fp) WF .s e elt)
    (hs : ∀ x, foldedSetIterable it X.env x = pure x := by intro _; rfl) : EJ X W .f (.ListComp e [⟨tg, it, ifs, 0⟩] scope pos) (eLc (own.map (·.2)) wi tgt test elt) :=
  pe_imp (pe_lc hc hN hi ok hg ht he hs) (lc_run hts)
end
inductive Out where
  | next (ρ : Rho) | ret (p : PV) | brk (ρ : Rho) | cont (ρ : Rho) | exc (c : Str) (ρ : Rho) | stuck
def GotS (K : PySem.W.Frag) (mg : Str → Option Value) (W : WX) (nw : Bool) (H0 : Hp) (O0 : Addr → Prop) (σ : St) (ρ : Rho) (H : Hp) (D : Ends) : Out → Prop
  | .next ρ' => ∀ σ' H', StR K H0 O0 H' σ' ρ' → Kept (OO O0 σ ρ) H (OO O0 σ' ρ') H' → D.nx σ' H'
  | .brk ρ' => ∀ σ' H', StR K H0 O0 H' σ' ρ' → Kept (OO O0 σ ρ) H (OO O0 σ' ρ') H' → D.bk σ' H'
  | .cont ρ' => ∀ σ' H', StR K H0 O0 H' σ' ρ' → Kept (OO O0 σ ρ) H (OO O0 σ' ρ') H' → D.ct σ' H'
  | .ret p => ∀ v H', Same H0 H' → RepR K O0 nw H0 H' v p → D.rt v H'
  | .exc c ρ' => ∀ C σ' H', mg c = some (.ref C) → StR K H0 O0 H' σ' ρ' → Kept (OO O0 σ ρ) H (OO O0 σ' ρ') H' → W (.ref C) none σ' H'
  | .stuck => False
def tS (K : PySem.W.Frag) (mg : Str → Option Value) (W : WX) (nw : Bool) (g : Rho → Out) : TS := fun D σ H =>
  ∃ H0 O0 ρ, StR K H0 O0 H σ ρ ∧ GotS K mg W nw H0 O0 σ ρ H D (g ρ)
abbrev SJ (X : Cx) (W : WX) (nw : Bool) (st : Stmt) (g : Rho → Out) : Prop := PS X st (tS X.K X.mg W nw g)
abbrev BJ (X : Cx) (W : WX) (nw : Bool) (st : List Stmt) (g : Rho → Out) : Prop := PSs X st (tS X.K X.mg W nw g)
def Out.then (o : Out) (k : Rho → Out) : Out := match o with
  | .next ρ => k ρ
  | o => o
section
variable {K : PySem.W.Frag} {mg : Str → Option Value} {W : WX} {nw : Bool} {H0 H H1 : Hp} {O0 : Addr → Prop} {σ σ1 : St} {ρ ρ1 : Rho} {D : Ends}
theorem GotS.later {o : Out} (k : Kept (OO O0 σ ρ) H (OO O0 σ1 ρ1) H1) (G : GotS K mg W nw H0 O0 σ ρ H D o) : GotS K mg W nw H0 O0 σ1 ρ1 H1 D o := by
  cases o with
  | next ρ' => exact fun σ' H' S k' => G σ' H' S (k.trans k')
  | brk ρ' => exact fun σ' H' S k' => G σ' H' S (k.trans k')
  | cont ρ' => exact fun σ' H' S k' => G σ' H' S (k.trans k')
  | ret p => exact G
  | exc c ρ' => exact fun C σ' H' e S k' => G C σ' H' e S (k.trans k')
  | stuck => exact G
/-- an expression's exception, from the statement's -/
theorem exc_of {c : Str} (S : StR K H0 O0 H σ ρ) (G : GotS K mg W nw H0 O0 σ ρ H D (.exc c ρ)) : ∀ C H', Same H H' → mg c = some (.ref C) → W (.ref C) none σ H' :=
  fun C H' s e => G C σ H' e (S.step s) (Kept.same s)
theorem kept_set {i : Nat} {v : Option V} {s : Slot} (hs : ∀ ps, s ≠ .own ps) (sm : Same H H1) : Kept (OO O0 σ ρ) H (OO O0 (σ.set i v) (ρ.set i s)) H1 := fun a o h n => ⟨sm a o h, fun z => n (OO.set_val hs z)⟩
theorem kept_own {i : Nat} {a : Addr} {ps : List PV} (hn : H a = none) (sm : Same H H1) : Kept (OO O0 σ ρ) H (OO O0 (σ.set i (some (.ref a))) (ρ.set i (.own ps))) H1 := fun b o h n => ⟨sm b o h, fun z => by
  rcases z with z | ⟨j, qs, h1, h2⟩
  · exact n (.inl z)
  · by_cases e : i = j
    · subst e
      by_cases hl : i < σ.length
      · rw [List.getElem?_set_self hl] at h2; cases h2
        exact ne_of_none h hn rfl
      · rw [List.getElem?_eq_none (by rw [List.length_set]; omega)] at h2; cases h2
    · rw [List.getElem?_set_ne e] at h1 h2
      exact n (.inr ⟨j, qs, h1, h2⟩)⟩
end
section
variable {X : Cx} {W : WX} {nw : Bool} {st : Stmt} {rest : List Stmt} {e : Expr} {pos : Pos} {f : Rho → R PV} {g h : Rho → Out}
theorem ps_imp {t t' : TS} (h : PS X st t) (q : ∀ D σ H, t' D σ H → t D σ H) : PS X st t' := ⟨fun pins s σ H D I hw => h.run pins s σ H D I (q D σ H hw)⟩
theorem pss_imp {sts : List Stmt} {t t' : TS} (h : PSs X sts t) (q : ∀ D σ H, t' D σ H → t D σ H) : PSs X sts t' := ⟨fun pins s σ H D I hw => h.run pins s σ H D I (q D σ H hw)⟩
def bNil : Rho → Out := .next
def bSeq (g h : Rho → Out) : Rho → Out := fun ρ => (g ρ).then h
theorem b_nil : BJ X W nw [] bNil := by
  refine pss_imp pss_nil fun D σ H ⟨H0, O0, ρ, S, G⟩ => ?_
  exact G σ H S (Kept.refl _ _)
theorem b_cons (h1 : SJ X W nw st g) (h2 : BJ X W nw rest h) : BJ X W nw (st :: rest) (bSeq g h) := by
  refine pss_imp (pss_cons h1 h2) fun D σ H ⟨H0, O0, ρ, S, G⟩ => ⟨H0, O0, ρ, S, ?_⟩
  have G' : GotS X.K X.mg W nw H0 O0 σ ρ H D ((g ρ).then h) := G
  revert G'
  cases g ρ with
  | next ρ' => exact fun G' σ' H' S' k => ⟨H0, O0, ρ', S', GotS.later k G'⟩
  | ret p => exact fun G => G
  | brk ρ' => exact fun G => G
  | cont ρ' => exact fun G => G
  | exc c ρ' => exact fun G => G
  | stuck => exact fun G => G
/-- by an expression, then on -/
def sE (f : Rho → R PV) (k : PV → Rho → Out) : Rho → Out := fun ρ => match f ρ with
  | .ok p => k p ρ
  | .exc c => .exc c ρ
  | .stuck => .stuck
theorem got_e {K : PySem.W.Frag} {mg : Str → Option Value} {H0 H : Hp} {O0 : Addr → Prop} {σ : St} {ρ : Rho} {D : Ends} {m : Md} {k : PV → Rho → Out} {Q : VK} (S : StR K H0 O0 H σ ρ) (G : GotS K mg W nw H0 O0 σ ρ H D (sE f k ρ))
    (hk : ∀ p v H', Same H H' → RepM K O0 σ ρ m H H' v p → GotS K mg W nw H0 O0 σ ρ H D (k p ρ) → Q v H') : Got K mg W O0 σ ρ m H Q (f ρ) := by
  revert G
  unfold sE
  cases f ρ with
  | ok p => exact fun G v H' s r => hk p v H' s r G
  | exc c => exact fun G => exc_of S G
  | stuck => exact fun G => G
def sDrop (f : Rho → R PV) : Rho → Out := sE f fun _ ρ => .next ρ
theorem s_expr {m : Md} (he : EJ X W m e f) (hs : swapsWith e none pos.line X.env = pure false := by rfl) : SJ X W nw (.Expr e pos) (sDrop f) := by
  refine ps_imp (ps_expr he hs) fun D σ H ⟨H0, O0, ρ, S, G⟩ => ⟨H0, O0, ρ, S, got_e S G fun p v H' s r G => ?_⟩
  exact G σ H' (S.step s) (Kept.same s)
def sRet (f : Rho → R PV) : Rho → Out := sE f fun p _ => .ret p
theorem s_ret (he : EJ X W .s e f) : SJ X W false (.Return (some e) pos) (sRet f) := by
  refine ps_imp (ps_ret he) fun D σ H ⟨H0, O0, ρ, S, G⟩ => ⟨H0, O0, ρ, S, got_e S G fun p v H' s r G => ?_⟩
  exact G v H' (S.same.trans s) (Rep.less (fun _ z => .inl z) r)
theorem s_retF (he : EJ X W .f e f) : SJ X W true (.Return (some e) pos) (sRet f) := by
  refine ps_imp (ps_ret he) fun D σ H ⟨H0, O0, ρ, S, G⟩ => ⟨H0, O0, ρ, S, got_e S G fun p v H' s r G => ?_⟩
  obtain ⟨a, vs, ps, e1, e2, e3, e4, e5⟩ := r
  exact G v H' (S.same.trans s) ⟨a, vs, ps, e1, e2, S.same.free e3, e4, e5.less fun b z => z.elim (fun z => .inl (.inl z)) .inr⟩
/-- a list of one's own is handed back -/
def sRetO (i : Nat) : Rho → Out := fun ρ => match ρ[i]? with
  | some (.own ps) => .ret (.lst ps)
  | _ => .stuck
theorem s_retO {i : Nat} (hp : PE X e (tVar i)) : SJ X W nw (.Return (some e) pos) (sRetO i) := by
  refine ps_imp (ps_ret hp) fun D σ H ⟨H0, O0, ρ, S, G⟩ => ?_
  unfold sRetO at G
  split at G
  · rename_i ps hq
    obtain ⟨a, vs, e1, e2, e3, e4, e5⟩ := S.own i ps hq
    refine ⟨.ref a, e1, G _ _ S.same ?_⟩
    cases nw with
    | false => exact .lst e2 e4 (e5.less fun _ z => .inl z)
    | true => exact ⟨a, vs, ps, rfl, rfl, e3, e2, e5.less fun b z => z.elim .inl fun z => .inr ⟨i, ps, hq, by rw [z]; exact e1⟩⟩
  · exact G.elim
def sIf (t : Rho → R Bool) (g h : Rho → Out) : Rho → Out := fun ρ => match t ρ with
  | .ok true => g ρ
  | .ok false => h ρ
  | .exc c => .exc c ρ
  | .stuck => .stuck
theorem s_if {c : Expr} {a b : List Stmt} {t : Rho → R Bool} (hc : TJ X W c t) (ha : BJ X W nw a g) (hb : BJ X W nw b h) : SJ X W nw (.If c a b pos) (sIf t g h) := by
  refine ps_imp (ps_if hc ha hb) fun D σ H ⟨H0, O0, ρ, S, G⟩ => ⟨H0, O0, ρ, S, ?_⟩
  have G' : GotS X.K X.mg W nw H0 O0 σ ρ H D (match t ρ with
    | .ok true => g ρ
    | .ok false => h ρ
    | .exc c => .exc c ρ
    | .stuck => .stuck) := G
  revert G'
  cases t ρ with
  | ok b =>
    cases b with
    | true => exact fun G H' s => by show (if true = true then _ else _); exact iteT ⟨H0, O0, ρ, S.step s, GotS.later (Kept.same s) G⟩
    | false => exact fun G H' s => by show (if false = true then _ else _); exact iteF ⟨H0, O0, ρ, S.step s, GotS.later (Kept.same s) G⟩
  | exc c => exact fun G => exc_of S G
  | stuck => exact fun G => G
def sPass : Rho → Out := .next
def sSet (i : Nat) (f : Rho → R PV) : Rho → Out := sE f fun p ρ => .next (ρ.set i (.val p))
def sSetO (i : Nat) (f : Rho → R PV) : Rho → Out := sE f fun p ρ => match p with
  | .lst ps => .next (ρ.set i (.own ps))
  | _ => .stuck
theorem q_set {K : PySem.W.Frag} {mg : Str → Option Value} {i : Nat} {te : TE} (hte : ∀ σ H Q, tE K mg W .s f σ H Q → te σ H Q) : ∀ D σ H, tS K mg W nw (sSet i f) D σ H → tAsg te (gName i) D σ H := by
  intro D σ H ⟨H0, O0, ρ, S, G⟩
  refine hte _ _ _ ⟨H0, O0, ρ, S, got_e S G fun p v H' s r G => ?_⟩
  exact G _ H' ((S.step s).set (s := .val p) (fun _ z => nomatch z) fun q z => by cases z; exact ⟨v, rfl, r⟩) (kept_set (s := .val p) (fun _ z => nomatch z) s)
theorem q_setO {K : PySem.W.Frag} {mg : Str → Option Value} {i : Nat} {te : TE} (hte : ∀ σ H Q, tE K mg W .f f σ H Q → te σ H Q) : ∀ D σ H, tS K mg W nw (sSetO i f) D σ H → tAsg te (gName i) D σ H := by
  intro D σ H ⟨H0, O0, ρ, S, G⟩
  refine hte _ _ _ ⟨H0, O0, ρ, S, got_e S G fun p v H' s r G => ?_⟩
  obtain ⟨a, vs, ps, rfl, rfl, e3, e4, e5⟩ := r
  exact G _ H' (S.setOwn s e3 e4 e5) (kept_own e3 s)
theorem s_set {i : Nat} {x : Str} {pos' : Pos} (hN : X.N.Nodup) (hi : X.N[i]? = some x) (hx : Loc X.env.scope x) (he : EJ X W .s e f) (hs : swapsWith e (some (.Name x pos')) pos.line X.env = pure false := by rfl) (hf : X.fn x = true ∨ X.env.scope.names.lookup x = some .local := by first | exact .inl rfl | exact .inr rfl | assumption) :
    SJ X W nw (.Assign [.Name x pos'] e pos) (sSet i f) := ps_imp (ps_set hN hi hx he hs hf) (q_set fun _ _ _ z => z)
theorem s_setO {i : Nat} {x : Str} {pos' : Pos} (hN : X.N.Nodup) (hi : X.N[i]? = some x) (hx : Loc X.env.scope x) (he : EJ X W .f e f) (hs : swapsWith e (some (.Name x pos')) pos.line X.env = pure false := by rfl) (hf : X.fn x = true ∨ X.env.scope.names.lookup x = some .local := by first | exact .inl rfl | exact .inr rfl | assumption) :
    SJ X W nw (.Assign [.Name x pos'] e pos) (sSetO i f) := ps_imp (ps_set hN hi hx he hs hf) (q_setO fun _ _ _ z => z)
/-- y = [.. for ..] -/
theorem lcs {i : Nat} {y : Str} {py : Pos} {tg it : Expr} {ifs : List Expr} {scope : Scope} {own : List (Str × Nat)} {spos : Pos} {wi : Rho → R (List PV)} {tgt : PV → Rho → Option Rho} {test : Rho → R Bool} {elt : Rho → R PV} {ts : List Nat} {t : TS}
    (hq : ∀ D σ H, t D σ H → tAsg (tLc (tI X.K X.mg W wi) (tG X.K ts tgt) (tT X.K X.mg WF test) (tE X.K X.mg WF .s elt) (own.map (·.2))) (gName i) D σ H) (hc : X.calm = true) (hN : X.N.Nodup) (hy : X.N[i]? = some y) (hyl : X.env.scope.names.lookup y = some .local)
    (hsw : swapsWith (.ListComp e [⟨tg, it, ifs, 0⟩] scope pos) (some (.Name y py)) spos.line X.env = pure true) (hi : IJ X W tg it wi) (ok : BlkOk X.N X.env.scope scope own)
    (hg : ∀ (s : Shared) (H : Hp) (C : Addr) (cl : List (Str × Addr)) (fp : List Addr), GJ (X.blk s H scope (compEnvC scope cl C X.env) fp) tg ts tgt)
    (ht : ∀ (s : Shared) (H : Hp) (C : Addr) (cl : List (Str × Addr)) (fp : List Addr), CJ (X.blk s H scope (compEnvC scope cl C X.env) fp) WF ifs test)
    (he : ∀ (s : Shared) (H : Hp) (C : Addr) (cl : List (Str × Addr)) (fp : List Addr), EJ (X.blk s H scope (compEnvC scope cl C X.env) fp) WF .s e elt)
    (hs : ∀ x, foldedSetIterable it X.env x = pure x := by intro _; rfl) : PS X (.Assign [.Name y py] (.ListComp e [⟨tg, it, ifs, 0⟩] scope pos) spos) t := ps_imp (ps_setLc hc hN hy hyl hsw hi ok hg ht he hs) hq
theorem q_lcO {i : Nat} {wi : Rho → R (List PV)} {tgt : PV → Rho → Option Rho} {test : Rho → R Bool} {elt : Rho → R PV} {vs ts : List Nat} (hts : ∀ i ∈ ts, i ∈ vs) : ∀ D σ H, tS X.K X.mg W nw (sSetO i (eLc vs wi tgt test elt)) D σ H → tAsg (tLc (tI X.K X.mg W wi) (tG X.K ts tgt) (tT X.K X.mg WF test) (tE X.K X.mg WF .s elt) vs) (gName i) D σ H :=
  q_setO (lc_run hts)
theorem q_lc {i : Nat} {wi : Rho → R (List PV)} {tgt : PV → Rho → Option Rho} {test : Rho → R Bool} {elt : Rho → R PV} {vs ts : List Nat} (hts : ∀ i ∈ ts, i ∈ vs) : ∀ D σ H, tS X.K X.mg W nw (sSet i (eLc vs wi tgt test elt)) D σ H → tAsg (tLc (tI X.K X.mg W wi) (tG X.K ts tgt) (tT X.K X.mg WF test) (tE X.K X.mg WF .s elt) vs) (gName i) D σ H :=
  q_set fun σ H Q ⟨H0, O0, ρ, S, G⟩ => lc_run hts σ H Q ⟨H0, O0, ρ, S, by
    revert G
    cases eLc vs wi tgt test elt ρ with
    | ok p => exact fun G v H' s r => G v H' s (RepM.f_s S r)
    | exc c => exact fun G => G
    | stuck => exact fun G => G⟩
/-- target = e -/
def sTo (h : PV → Rho → Option Rho) (f : Rho → R PV) : Rho → Out := sE f fun p ρ => match h p ρ with
  | some ρ' => .next ρ'
  | none => .stuck
theorem s_to {tg : Expr} {ts : List Nat} {h : PV → Rho → Option Rho} (he : EJ X W .s e f) (hg : GJ X tg ts h) (hs : swapsWithSole [tg] e pos.line X.env = pure false := by rfl) (hw : swappedStores [tg] e X.env = pure none := by rfl)
    (h1 : (assignEach [tg] X.env).map (·.2) = [assign tg X.env] := by rfl) : SJ X W nw (.Assign [tg] e pos) (sTo h f) := by
  refine ps_imp (ps_asg he hg hs hw h1) fun D σ H ⟨H0, O0, ρ, S, G⟩ => ⟨H0, O0, ρ, S, got_e S G fun p v H' s r G => ?_⟩
  refine ⟨H0, O0, ρ, p, S.step s, r, ?_⟩
  revert G
  cases h p ρ with
  | none => exact False.elim
  | some ρ' => exact fun G σ' S' l _ _ => G σ' H' S' fun a o ho n => ⟨s a o ho, fun z => n (l a z)⟩
/-- a, b = x, y -/
def sPar (i j : Nat) (fA : Rho → R (List PV)) : Rho → Out := fun ρ => match fA ρ with
  | .ok [p, q] => .next ((ρ.set i (.val p)).set j (.val q))
  | .exc c => .exc c ρ
  | _ => .stuck
/-- x op= e, by values -/
def sAug (i : Nat) (g : PV → PV → R PV) (f : Rho → R PV) : Rho → Out := fun ρ => match ρ[i]? with
  | some (.val x) => sE (fun ρ => (f ρ).bind fun y => g x y) (fun z ρ => .next (ρ.set i (.val z))) ρ
  | _ => .stuck
theorem s_aug {i : Nat} {x : Str} {op : Operator} {r : R2} {g : PV → PV → R PV} {pos' : Pos} (hN : X.N.Nodup) (hi : X.N[i]? = some x) (hx : Loc X.env.scope x) (he : EJ X W .t e f) (hr : OpR X (inplaceOp op) r) (hg : ∀ p q c, g p q ≠ .exc c) (ho : OpS X.K r .t .t .s g) (hf : X.fn x = true ∨ X.env.scope.names.lookup x = some .local := by first | exact .inl rfl | exact .inr rfl | assumption) :
    SJ X W nw (.AugAssign (.Name x pos') op e pos) (sAug i g f) := by
  refine ps_imp (ps_aug hN hi hx he (ti := r) (fun pins s σ H x y v u Q I r1 r2 h => hr pins s σ H x y v u Q I r1 r2 h) hf) fun D σ H ⟨H0, O0, ρ, S, G⟩ => ?_
  unfold sAug at G
  split at G
  · rename_i p hp
    obtain ⟨v, e1, e2⟩ := S.val i p hp
    refine ⟨v, e1, H0, O0, ρ, S, ?_⟩
    have G' : GotS X.K X.mg W nw H0 O0 σ ρ H D (match (f ρ).bind fun y => g p y with
      | .ok z => .next (ρ.set i (.val z))
      | .exc c => .exc c ρ
      | .stuck => .stuck) := G
    revert G'
    cases f ρ with
    | stuck => exact False.elim
    | exc c => exact fun G => exc_of S G
    | ok q =>
      intro G y H1 s1 r1
      refine ho S s1 (RepM.s_t (H := H) (Rep.same s1 e2)) r1 ?_
      revert G
      rw [R.bind_ok]
      cases hz : g p q with
      | stuck => exact False.elim
      | exc c => exact absurd hz (hg p q c)
      | ok z => exact fun G w H2 s2 r2 => G _ H2 ((S.step (s1.trans s2)).set (s := .val z) (fun _ z => nomatch z) fun q z => by cases z; exact ⟨w, rfl, r2⟩) (kept_set (s := .val z) (fun _ z => nomatch z) (s1.trans s2))
  · exact G.elim
theorem s_augAdd {i : Nat} {x : Str} {pos' : Pos} (hN : X.N.Nodup) (hi : X.N[i]? = some x) (hx : Loc X.env.scope x) (he : EJ X W .t e f) (hf : X.fn x = true ∨ X.env.scope.names.lookup x = some .local := by first | exact .inl rfl | exact .inr rfl | assumption) :
    SJ X W nw (.AugAssign (.Name x pos') .Add e pos) (sAug i (intP (fun _ _ => true) fun a b => .int (a + b)) f) := s_aug hN hi hx he iop_add intP_exc (s_int0 fun _ _ _ _ => .int _) hf
theorem s_augMul {i : Nat} {x : Str} {pos' : Pos} (hN : X.N.Nodup) (hi : X.N[i]? = some x) (hx : Loc X.env.scope x) (he : EJ X W .t e f) (hf : X.fn x = true ∨ X.env.scope.names.lookup x = some .local := by first | exact .inl rfl | exact .inr rfl | assumption) :
    SJ X W nw (.AugAssign (.Name x pos') .Mult e pos) (sAug i mulP f) := s_aug hN hi hx he iop_mulW intP_exc (s_int (fun _ _ h => of_decide_eq_true h) fun _ _ _ _ => .int _) hf
/-- a list is let go -/
def sFrz (i : Nat) (g : Rho → Out) : Rho → Out := fun ρ => match ρ[i]? with
  | some (.own ps) => g (ρ.set i (.val (.lst ps)))
  | _ => g ρ
theorem s_frz {i : Nat} {sts : List Stmt} (h : BJ X W nw sts g) : BJ X W nw sts (sFrz i g) := by
  refine pss_imp h fun D σ H ⟨H0, O0, ρ, S, G⟩ => ?_
  unfold sFrz at G
  split at G
  · rename_i ps hp
    have k : Kept (OO O0 σ ρ) H (OO O0 σ (ρ.set i (.val (.lst ps)))) H := fun a o h n => ⟨h, fun z => n (by
      rcases z with z | ⟨j, qs, h1, h2⟩
      · exact .inl z
      · by_cases e : i = j
        · subst e
          rw [List.getElem?_set_self (List.getElem?_eq_some_iff.mp hp).1] at h1; cases h1
        · rw [List.getElem?_set_ne e] at h1
          exact .inr ⟨j, qs, h1, h2⟩)⟩
    exact ⟨H0, O0, _, S.freeze hp, GotS.later k G⟩
  · exact ⟨H0, O0, ρ, S, G⟩
end
end PL
set_option Elab.async false
set_option linter.all false
set_option maxRecDepth 100000
set_option autoImplicit false
namespace PL
open PySem PySem.Spec L2
open PyProof.Rows hiding St
section
variable {X : Cx} {W : WX} {nw : Bool} {st : Stmt} {rest : List Stmt} {e : Expr} {pos : Pos} {f : Rho → R PV} {g h : Rho → Out}
def forL (tgt : PV → Rho → Option Rho) (body : Rho → Out) : List PV → Rho → Out
  | [], ρ => .next ρ
  | p :: ps, ρ => match tgt p ρ with
    | none => .stuck
    | some ρ1 => match body ρ1 with
      | .next ρ' => forL tgt body ps ρ'
      | .cont ρ' => forL tgt body ps ρ'
      | .brk ρ' => .next ρ'
      | o => o
def sFor (it : Rho → R (List PV)) (tgt : PV → Rho → Option Rho) (body : Rho → Out) : Rho → Out := fun ρ => match it ρ with
  | .ok items => forL tgt body items ρ
  | .exc c => .exc c ρ
  | .stuck => .stuck
theorem s_for {tg it : Expr} {body : List Stmt} {wi : Rho → R (List PV)} {tgt : PV → Rho → Option Rho} {ts : List Nat} (hp : PassesOwn (model X.prog X.w) X.A X.env X.xe) (hc : X.calm = true) (hi : IJ X W tg it wi) (hg : GJ X tg ts tgt) (hb : BJ X W nw body g) (hs : ∀ x, foldedSetIterable it X.env x = pure x := by intro _; rfl) : SJ X W nw (.For tg it body [] pos) (sFor wi tgt g) := by
  refine ps_imp (ps_for hp hc hi hg hb hs) fun D σ H ⟨H0, O0, ρ, S, G⟩ => ⟨H0, O0, ρ, S, ?_⟩
  have G' : GotS X.K X.mg W nw H0 O0 σ ρ H D (match wi ρ with
    | .ok items => forL tgt g items ρ
    | .exc c => .exc c ρ
    | .stuck => .stuck) := G
  revert G'
  cases wi ρ with
  | stuck => exact False.elim
  | exc c => exact fun G => exc_of S G
  | ok items =>
    intro G J H1 s1 ok
    refine ⟨fun i m σc Hc => m = items.length - i ∧ i ≤ items.length ∧ ∃ ρc, StR X.K H0 O0 Hc σc ρc ∧ Kept (OO O0 σ ρ) H1 (OO O0 σc ρc) Hc ∧ GotS X.K X.mg W nw H0 O0 σc ρc Hc D (forL tgt g (items.drop i) ρc),
      ⟨items.length, by simp, Nat.zero_le _, ρ, S.step s1, Kept.refl _ _, by rw [List.drop_zero]; exact GotS.later (Kept.same s1) G⟩, ?_⟩
    rintro i m σc Hc ⟨rfl, hi, ρc, Sc, kc, Gc⟩
    by_cases hlt : i < items.length
    · refine .inr ⟨ok.go i Hc _ kc hlt, fun σ' H' => ∃ ρ', StR X.K H0 O0 H' σ' ρ' ∧ Kept (OO O0 σ ρ) H1 (OO O0 σ' ρ') H' ∧ GotS X.K X.mg W nw H0 O0 σ' ρ' H' D (forL tgt g (items.drop (i + 1)) ρ'), fun σ' H' n => ⟨items.length - (i + 1), by omega, rfl, hlt, n⟩, fun x Hy hy => ?_⟩
      have hg : items[i]? = some items[i] := List.getElem?_eq_getElem hlt
      obtain ⟨sy, ry⟩ := ok.yld i Hc _ x Hy _ kc (fun a z => Sc.there z) hg hy
      have hdr : items.drop i = items[i] :: items.drop (i + 1) := List.drop_eq_getElem_cons hlt
      rw [hdr] at Gc
      refine ⟨H0, O0, ρc, items[i], Sc.step sy, ry, ?_⟩
      unfold forL at Gc
      revert Gc
      cases tgt items[i] ρc with
      | none => exact False.elim
      | some ρ1 =>
        intro Gc σ2 S2 l2 _ _
        have k2 : Kept (OO O0 σc ρc) Hc (OO O0 σ2 ρ1) Hy := fun a o h n => ⟨sy a o h, fun z => n (l2 a z)⟩
        refine ⟨H0, O0, ρ1, S2, ?_⟩
        have Gc' := GotS.later k2 Gc
        revert Gc'
        dsimp only
        cases g ρ1 with
        | next ρ' => exact fun Gc' σ' H' S' k' => ⟨ρ', S', (kc.trans k2).trans k', GotS.later k' Gc'⟩
        | cont ρ' => exact fun Gc' σ' H' S' k' => ⟨ρ', S', (kc.trans k2).trans k', GotS.later k' Gc'⟩
        | brk ρ' => exact fun G => G
        | ret p => exact fun G => G
        | exc c ρ' => exact fun G => G
        | stuck => exact fun G => G
    · have e : i = items.length := by omega
      subst e
      rw [List.drop_length] at Gc
      exact .inl ⟨ok.stop _ Hc _ kc (Nat.le_refl _), Gc σc Hc Sc (Kept.refl _ _)⟩
def whN (t : Rho → R Bool) (b : Rho → Out) : Nat → Rho → Out
  | 0, _ => .stuck
  | n + 1, ρ => match t ρ with
    | .stuck => .stuck
    | .exc c => .exc c ρ
    | .ok false => .next ρ
    | .ok true => match b ρ with
      | .next ρ' => whN t b n ρ'
      | .cont ρ' => whN t b n ρ'
      | .brk ρ' => .next ρ'
      | o => o
theorem whN_more {t : Rho → R Bool} {b : Rho → Out} : ∀ (n : Nat) (ρ : Rho), whN t b n ρ ≠ .stuck → whN t b (n + 1) ρ = whN t b n ρ
  | 0, ρ, h => absurd rfl h
  | n + 1, ρ, h => by
    unfold whN at h
    rw [whN]
    conv => rhs; rw [whN]
    revert h
    cases t ρ with
    | stuck => exact fun _ => rfl
    | exc c => exact fun _ => rfl
    | ok k =>
      cases k with
      | false => exact fun _ => rfl
      | true =>
        dsimp only
        cases b ρ with
        | next ρ' => exact fun h => whN_more n ρ' h
        | cont ρ' => exact fun h => whN_more n ρ' h
        | _ => exact fun _ => rfl
theorem whN_le {t : Rho → R Bool} {b : Rho → Out} {n m : Nat} {ρ : Rho} (h : whN t b n ρ ≠ .stuck) (hl : n ≤ m) : whN t b m ρ = whN t b n ρ := by
  induction m with
  | zero => rw [Nat.le_zero.mp hl]
  | succ m ih =>
    by_cases e : n = m + 1
    · rw [e]
    · have q := ih (by omega)
      rw [whN_more m ρ (by rw [q]; exact h), q]
open Classical in
noncomputable def sWh (t : Rho → R Bool) (b : Rho → Out) (ρ : Rho) : Out := if h : ∃ n, whN t b n ρ ≠ .stuck then whN t b h.choose ρ else .stuck
theorem sWh_of {t : Rho → R Bool} {b : Rho → Out} {n : Nat} {ρ : Rho} (h : whN t b n ρ ≠ .stuck) : sWh t b ρ = whN t b n ρ := by
  have hx : ∃ n, whN t b n ρ ≠ .stuck := ⟨n, h⟩
  unfold sWh
  rw [dif_pos hx]
  have hc := hx.choose_spec
  rcases Nat.le_total n hx.choose with l | l
  · exact whN_le h l
  · exact (whN_le hc l).symm
theorem sWh_ex {t : Rho → R Bool} {b : Rho → Out} {ρ : Rho} (h : sWh t b ρ ≠ .stuck) : ∃ n, whN t b n ρ = sWh t b ρ := by
  by_cases hx : ∃ n, whN t b n ρ ≠ .stuck
  · obtain ⟨n, hn⟩ := hx
    exact ⟨n, (sWh_of hn).symm⟩
  · unfold sWh at h
    rw [dif_neg hx] at h
    exact absurd rfl h
/-- one turn -/
theorem sWh_eq (t : Rho → R Bool) (b : Rho → Out) (ρ : Rho) : sWh t b ρ = (match t ρ with
    | .stuck => .stuck
    | .exc c => .exc c ρ
    | .ok false => .next ρ
    | .ok true => match b ρ with
      | .next ρ' => sWh t b ρ'
      | .cont ρ' => sWh t b ρ'
      | .brk ρ' => .next ρ'
      | o => o) := by
  have go : ∀ ρ', (∀ n, whN t b (n + 1) ρ = whN t b n ρ') → sWh t b ρ = sWh t b ρ' := fun ρ' q => by
    by_cases h : sWh t b ρ' = .stuck
    · rw [h]
      by_cases h2 : sWh t b ρ = .stuck
      · exact h2
      · obtain ⟨n, hn⟩ := sWh_ex h2
        have hn' : whN t b n ρ ≠ .stuck := by rw [hn]; exact h2
        have e : whN t b n ρ' ≠ .stuck := by rw [← q n, whN_more n ρ hn']; exact hn'
        rw [sWh_of e] at h
        exact absurd h e
    · obtain ⟨n, hn⟩ := sWh_ex h
      have e : whN t b (n + 1) ρ ≠ .stuck := by rw [q n, hn]; exact h
      rw [sWh_of e, q n, hn]
  have one : ∀ o, o ≠ .stuck → whN t b 1 ρ = o → sWh t b ρ = o := fun o ho e => by rw [← e]; exact sWh_of (by rw [e]; exact ho)
  have non : (∀ n, whN t b n ρ = .stuck) → sWh t b ρ = .stuck := fun q => by
    unfold sWh
    rw [dif_neg (fun ⟨n, hn⟩ => hn (q n))]
  cases ht : t ρ with
  | stuck => exact non fun n => by cases n with | zero => rfl | succ n => rw [whN, ht]
  | exc c => exact one _ (fun z => nomatch z) (by rw [whN, ht])
  | ok k =>
    cases k with
    | false => exact one _ (fun z => nomatch z) (by rw [whN, ht])
    | true =>
      dsimp only
      cases hb : b ρ with
      | next ρ' => exact go ρ' fun n => by rw [whN, ht]; dsimp only; rw [hb]
      | cont ρ' => exact go ρ' fun n => by rw [whN, ht]; dsimp only; rw [hb]
      | brk ρ' => exact one _ (fun z => nomatch z) (by rw [whN, ht]; dsimp only; rw [hb])
      | ret p => exact one _ (fun z => nomatch z) (by rw [whN, ht]; dsimp only; rw [hb])
      | exc c ρ' => exact one _ (fun z => nomatch z) (by rw [whN, ht]; dsimp only; rw [hb])
      | stuck => exact non fun n => by cases n with | zero => rfl | succ n => rw [whN, ht]; dsimp only; rw [hb]
theorem s_while {c : Expr} {body : List Stmt} {t : Rho → R Bool} (hp : PassesOwn (model X.prog X.w) X.A X.env X.xe) (hc : TJ X W c t) (hb : BJ X W nw body g) : SJ X W nw (.While c body [] pos) (sWh t g) := by
  refine ps_imp (ps_while hp hc hb) fun D σ H ⟨H0, O0, ρ, S, G⟩ => ?_
  have ns : sWh t g ρ ≠ .stuck := fun z => by rw [z] at G; exact G
  obtain ⟨n, hn⟩ := sWh_ex ns
  rw [← hn] at G
  refine ⟨fun m σc Hc => ∃ ρc, StR X.K H0 O0 Hc σc ρc ∧ GotS X.K X.mg W nw H0 O0 σc ρc Hc D (whN t g m ρc), ⟨n, ρ, S, G⟩, ?_⟩
  rintro m σc Hc ⟨ρc, Sc, Gc⟩
  cases m with
  | zero => exact Gc.elim
  | succ m =>
    refine ⟨H0, O0, ρc, Sc, ?_⟩
    unfold whN at Gc
    revert Gc
    cases t ρc with
    | stuck => exact False.elim
    | exc c => exact fun G => exc_of Sc G
    | ok k =>
      cases k with
      | false => exact fun G H1 s1 => iteF (G σc H1 (Sc.step s1) (Kept.same s1))
      | true =>
        dsimp only
        intro G H1 s1
        refine iteT ⟨fun σ' H' => ∃ ρ', StR X.K H0 O0 H' σ' ρ' ∧ GotS X.K X.mg W nw H0 O0 σ' ρ' H' D (whN t g m ρ'), fun σ' H' z => ⟨m, Nat.lt_succ_self m, z⟩, H0, O0, ρc, Sc.step s1, ?_⟩
        have G' := GotS.later (Kept.same s1) G
        revert G'
        cases g ρc with
        | next ρ' => exact fun Gc' σ' H' S' k' => ⟨ρ', S', GotS.later k' Gc'⟩
        | cont ρ' => exact fun Gc' σ' H' S' k' => ⟨ρ', S', GotS.later k' Gc'⟩
        | brk ρ' => exact fun G => G
        | ret p => exact fun G => G
        | exc c ρ' => exact fun G => G
        | stuck => exact fun G => G
theorem kept_write {O0 : Addr → Prop} {σ : St} {ρ : Rho} {H : Hp} {i : Nat} {a : Addr} {ps qs : List PV} {ws : List V} (h1 : ρ[i]? = some (.own ps)) (h2 : σ[i]? = some (some (.ref a))) : Kept (OO O0 σ ρ) H (OO O0 σ (ρ.set i (.own qs))) (upd H a (.lst ws)) := fun b o h n =>
  ⟨by rw [upd_ne (fun z => n (by rw [z]; exact .inr ⟨i, ps, h1, h2⟩))]; exact h, fun z => n (by
    rcases z with z | ⟨j, rs, e1, e2⟩
    · exact .inl z
    · by_cases e : i = j
      · subst e; exact .inr ⟨i, ps, h1, e2⟩
      · rw [List.getElem?_set_ne e] at e1; exact .inr ⟨j, rs, e1, e2⟩)⟩
/-- by the list of slot i and a value -/
def sMut (i : Nat) (g : List PV → PV → R (List PV)) (f : Rho → R PV) : Rho → Out := fun ρ => match ρ[i]? with
  | some (.own ps) => sE f (fun p ρ => match g ps p with
    | .ok qs => .next (ρ.set i (.own qs))
    | _ => .stuck) ρ
  | _ => .stuck
def appP (ps : List PV) (p : PV) : R (List PV) := if ps.length < sizeLine then .ok (ps ++ [p]) else .stuck
def extP (ps : List PV) : PV → R (List PV)
  | .lst qs => if ps.length + qs.length ≤ sizeLine then .ok (ps ++ qs) else .stuck
  | _ => .stuck
variable {o : Expr} {apos : Pos} {i : Nat}
theorem s_app (ho : PE X o (tVar i)) (he : EJ X W .s e f) (hs : swapsWith (.Call (.Attribute o "append" apos) [e] [] pos) none pos.line X.env = pure false := by rfl)
    (hbase : attributeBase o "append" X.env (eval o X.env) = eval o X.env := by rfl)
    (hfew : ((backTo pos (starEach [e] X.env)).all (fun x => !x.1) && (backToKw pos (keywordEach [] X.env)).all (fun x => x.1.isSome)
      && decide ([e].length + ([] : List Keyword).length + (if ([] : List Keyword).isEmpty then 0 else 1) < 30)) = true := by rfl)
    (hline : (apos.endLine == pos.line) = true := by rfl) (hs1 : starEach [e] X.env = (false, eval e X.env) :: starEach [] X.env := by rfl) (hplain : (backTo pos (starEach [] X.env)).any (·.1) = false := by rfl) :
    SJ X W nw (.Expr (.Call (.Attribute o "append" apos) [e] [] pos) pos) (sMut i appP f) := by
  refine ps_imp (ps_expr (pe_bm PySem.F.plainAttrs_list PySem.F.slot_list_append PySem.F.type_list_append mt_append ho (pa_cons he pa_nil hs1) hbase hfew hline hs1 hplain) hs) fun D σ H ⟨H0, O0, ρ, S, G⟩ => ?_
  unfold sMut at G
  split at G
  · rename_i ps hp
    obtain ⟨a, vs, e1, e2, e3, e4, e5⟩ := S.own i ps hp
    refine ⟨.ref a, e1, .inl ⟨rfl, vs, .inl (.inl e2)⟩, H0, O0, ρ, S, got_e S G fun p v H1 s1 r1 G => ?_⟩
    unfold appP at G
    split at G
    · rename_i qs hq
      split at hq
      · rename_i hz
        cases hq
        have r5 := (e5.same s1).append (.cons (show Rep X.K H1 (OO O0 σ ρ) v p from r1) .nil)
        exact ⟨a, vs, v, rfl, rfl, s1 _ _ e2, by rw [e5.length]; exact hz, G _ _ ((S.step s1).write hp e1 r5) ((Kept.same s1).trans (kept_write hp e1))⟩
      · cases hq
    · exact G.elim
  · exact G.elim
theorem s_ext (ho : PE X o (tVar i)) (he : EJ X W .t e f) (hs : swapsWith (.Call (.Attribute o "extend" apos) [e] [] pos) none pos.line X.env = pure false := by rfl)
    (hbase : attributeBase o "extend" X.env (eval o X.env) = eval o X.env := by rfl)
    (hfew : ((backTo pos (starEach [e] X.env)).all (fun x => !x.1) && (backToKw pos (keywordEach [] X.env)).all (fun x => x.1.isSome)
      && decide ([e].length + ([] : List Keyword).length + (if ([] : List Keyword).isEmpty then 0 else 1) < 30)) = true := by rfl)
    (hline : (apos.endLine == pos.line) = true := by rfl) (hs1 : starEach [e] X.env = (false, eval e X.env) :: starEach [] X.env := by rfl) (hplain : (backTo pos (starEach [] X.env)).any (·.1) = false := by rfl) :
    SJ X W nw (.Expr (.Call (.Attribute o "extend" apos) [e] [] pos) pos) (sMut i extP f) := by
  refine ps_imp (ps_expr (pe_bm PySem.F.plainAttrs_list PySem.F.slot_list_extend PySem.F.type_list_extend mt_extend ho (pa_cons he pa_nil hs1) hbase hfew hline hs1 hplain) hs) fun D σ H ⟨H0, O0, ρ, S, G⟩ => ?_
  unfold sMut at G
  split at G
  · rename_i ps hp
    obtain ⟨a, vs, e1, e2, e3, e4, e5⟩ := S.own i ps hp
    refine ⟨.ref a, e1, .inl ⟨rfl, vs, .inl (.inl e2)⟩, H0, O0, ρ, S, got_e S G fun p v H1 s1 r1 G => ?_⟩
    unfold extP at G
    split at G
    · rename_i qs hq
      split at hq
      · split at hq
        · rename_i hz
          cases hq
          obtain ⟨b, ws, rfl, h1, r2⟩ := rt_lst r1
          have r5 := (e5.same s1).append r2
          exact ⟨a, b, vs, ws, rfl, rfl, s1 _ _ e2, h1, by rw [e5.length, r2.length]; exact hz, G _ _ ((S.step s1).write hp e1 r5) ((Kept.same s1).trans (kept_write hp e1))⟩
        · cases hq
      · cases hq
    · exact G.elim
  · exact G.elim
/-- xs[j] = e -/
def setP (ps : List PV) (p : PV) : PV → R (List PV)
  | .int k => match ixN ps.length k with
    | some j => .ok (ps.set j p)
    | none => .stuck
  | _ => .stuck
def sSetI (i : Nat) (f fi : Rho → R PV) : Rho → Out := fun ρ => match ρ[i]? with
  | some (.own ps) => sE f (fun p => sE fi fun q ρ => match setP ps p q with
    | .ok qs => .next (ρ.set i (.own qs))
    | _ => .stuck) ρ
  | _ => .stuck
theorem s_setI {ix : Expr} {fi : Rho → R PV} {p2 : Pos} (ho : PE X o (tVar i)) (he : EJ X W .s e f) (hi : EJ X W .s ix fi)
    (ha : ∀ v, assign (.Subscript o ix p2) X.env v = (do
      let ov ← holding [v] (eval o X.env)
      let iv ← holding [v, ov] (eval ix X.env)
      standAt p2
      holding [v, ov, iv] (setItem ov iv v)
      release [v, ov, iv] []) := by intro _; rfl)
    (hs : swapsWithSole [.Subscript o ix p2] e pos.line X.env = pure false := by rfl) (hw : swappedStores [.Subscript o ix p2] e X.env = pure none := by rfl)
    (h1 : (assignEach [.Subscript o ix p2] X.env).map (·.2) = [assign (.Subscript o ix p2) X.env] := by rfl) : SJ X W nw (.Assign [.Subscript o ix p2] e pos) (sSetI i f fi) := by
  refine ps_imp (ps_asg he (pg_sub ho hi set_list ha) hs hw h1) fun D σ H ⟨H0, O0, ρ, S, G⟩ => ?_
  unfold sSetI at G
  split at G
  · rename_i ps hp
    refine ⟨H0, O0, ρ, S, got_e S G fun p v H1 s1 r1 G => ?_⟩
    have r1 : Rep X.K H1 (OO O0 σ ρ) v p := r1
    have S1 := S.step s1
    obtain ⟨a, vs, e1, e2, e3, e4, e5⟩ := S1.own i ps hp
    refine ⟨.ref a, e1, H0, O0, ρ, S1, got_e S1 (GotS.later (Kept.same s1) G) fun q w H2 s2 r2 G => ?_⟩
    unfold setP at G
    split at G
    · rename_i qs hq
      split at hq
      · split at hq
        · rename_i j hj
          cases hq
          cases (show Rep X.K H2 (OO O0 σ ρ) w (.int _) from r2)
          have r5 := (e5.same s2).set (r1.same s2) j
          exact ⟨a, vs, _, j, rfl, rfl, s2 _ _ e2, by rw [e5.length]; exact hj, G _ _ ((S1.step s2).write hp e1 r5) ((Kept.same s2).trans (kept_write hp e1))⟩
        · cases hq
      · cases hq
    · exact G.elim
  · exact G.elim
/-- what is known of a class of errors of the text's own -/
structure ExcT (K : PySem.W.Frag) (mg : Str → Option Value) (x : Str) (C : Addr) : Prop where
  g : mg x = some (.ref C)
  ex : PySem.W.excIn K C [.type "ValueError", .type "Exception", .type "BaseException", .type "object"] "ValueError.__new__" = true
  kp : PySem.W.keepIn K (.ref C) = true
  sb : PySem.W.subIn K (.ref C) (.type "BaseException") = some true
  ty : PySem.W.typeIn K (.ref C) = some (.type "type")
def sRaise (x : Str) : Rho → Out := .exc x
theorem s_raise {x m : Str} {C : Addr} {j : Nat} {p p2 p3 : Pos} (T : ExcT X.K X.mg x C) (hc : X.calm = true) (tk : L2N.Takes X W) (hg : Gl X x) (hdb : (x == ("__debug__" : Str)) = false := by decide) : SJ X W nw (.Raise (some (.Call (.Name x p) [.Constant (.str m) j p2] [] p3)) none pos) (sRaise x) := by
  refine ps_imp (L2N.ps_raise hc tk (L2N.pmk_own PySem.F.excBase_ValueError T.ex T.g T.kp (raises_own T.sb T.ty) hg hdb)) fun D σ H ⟨H0, O0, ρ, S, G⟩ => ?_
  exact G C σ H T.g S (Kept.refl _ _)
end
def runF (n : Nat) (g : Rho → Out) : List PV → R PV := fun ps => match g (ps.map Slot.val ++ List.replicate (n - ps.length) Slot.un) with
  | .ret p => .ok p
  | .next _ => .ok .non
  | .exc c _ => .exc c
  | _ => .stuck
theorem start_st {K : PySem.W.Frag} {H : Hp} {O : Addr → Prop} {vs : List V} {ps : List PV} {N : List Str} (al : ∀ a, O a → H a ≠ none) (r : Reps K H O vs ps) : StR K H O H (L2.start N vs) (ps.map Slot.val ++ List.replicate (N.length - ps.length) Slot.un) := by
  have hl := r.length
  have noown : ∀ (i : Nat) qs, (ps.map Slot.val ++ List.replicate (N.length - ps.length) Slot.un)[i]? ≠ some (.own qs) := fun i qs e => by
    have := List.mem_of_getElem? e
    rcases List.mem_append.mp this with z | z
    · obtain ⟨p, _, z⟩ := List.mem_map.mp z
      cases z
    · cases (List.mem_replicate.mp z).2
  have oo : ∀ a, OO O (L2.start N vs) (ps.map Slot.val ++ List.replicate (N.length - ps.length) Slot.un) a → O a := fun a z => by
    rcases z with z | ⟨i, qs, h1, _⟩
    · exact z
    · exact absurd h1 (noown i qs)
  refine ⟨by unfold L2.start; simp [hl], Same.refl H, al, fun i qs h => absurd h (noown i qs), fun i j a qs rs h => absurd h (noown i qs), fun i p h => ?_, fun i a h => by
    have := List.mem_of_getElem? h
    rcases List.mem_append.mp this with z | z
    · obtain ⟨p, _, z⟩ := List.mem_map.mp z
      cases z
    · cases (List.mem_replicate.mp z).2⟩
  by_cases hi : i < ps.length
  · rw [List.getElem?_append_left (by rw [List.length_map]; exact hi), List.getElem?_map] at h
    cases hq : ps[i]? with
    | none => rw [hq] at h; cases h
    | some q =>
      rw [hq] at h
      cases h
      obtain ⟨v, h1, h2⟩ := r.get hq
      refine ⟨v, ?_, h2.less oo⟩
      unfold L2.start
      rw [List.getElem?_append_left (by rw [List.length_map, hl]; exact hi), List.getElem?_map, h1]
      rfl
  · rw [List.getElem?_append_right (by rw [List.length_map]; omega)] at h
    have := List.mem_of_getElem? h
    cases (List.mem_replicate.mp this).2
section
variable {P : Program} {w : World} {K : PySem.W.Frag} {mg : Str → Option Value} {base : Heap}
theorem Fun_okN {x qual : Str} {st : Stmt} {f : Addr} {fd : FuncData} {N ps : List Str} {k : Nat} {sp : Sp} (F : Fun K x qual st f fd) (S : FnScope N ps (defScope st)) (len : ∀ vs H Q E, sp vs H Q E → vs.length = ps.length)
    (hbody : ∀ (cdv : Value) (A : Around) (outer : List PySem.Env) (s : Shared) (H : Hp) (vs : List V) (Q : VK) (E : XK), Room k (A.deeper (envOfC qual (defScope st) s.heap.objs.size f cdv)) → sp vs H Q E →
      ∃ t, PSs (cxOf (L2N.CX P w) P w K mg base N qual (defScope st) f cdv A outer s H E) (defBody st) t ∧ t { nx := fun _ H' => Q .non H', rt := Q } (L2.start N vs) H) : FnOk P w K mg base (L2N.CX P w) (k + 1) f fd ps sp := by
  obtain ⟨oc, od, kV, doc, pm, an, cdv, ct, osl, rfl, lk, hcd⟩ := F.ex
  exact fn_of lk hcd S len fun A outer s H vs Q E hr hsp => hbody cdv A outer s H vs Q E hr hsp
theorem fn_mk {x qual : Str} {st : Stmt} {f : Addr} {fd : FuncData} {N ps : List Str} {k n : Nat} {nw : Bool} {g : Rho → Out} (F : Fun K x qual st f fd) (S : FnScope N ps (defScope st)) (hn : n = ps.length) (hnw : nw = true → ∀ l, ∀ ρ, g l ≠ .next ρ)
    (hbody : ∀ (cdv : Value) (A : Around) (outer : List PySem.Env) (s : Shared) (H : Hp) (E : XK), Room k (A.deeper (envOfC qual (defScope st) s.heap.objs.size f cdv)) →
      BJ (cxOf (L2N.CX P w) P w K mg base N qual (defScope st) f cdv A outer s H E) (fun cls d _ H => E cls d H) nw (defBody st) g) :
    FnOk P w K mg base (L2N.CX P w) (k + 1) f fd ps (spF K mg n nw (runF N.length g)) := by
  refine Fun_okN F S (fun vs H Q E h => ?_) (fun cdv A outer s H vs Q E hr h => ?_)
  · obtain ⟨_, _, _, _, e, _⟩ := h
    rw [e, hn]
  · obtain ⟨qs, O, al, r, e, h⟩ := h
    refine ⟨_, hbody cdv A outer s H E hr, H, O, _, start_st al r, ?_⟩
    have h' : (match runF N.length g qs with
      | .ok p => ∀ v H', Same H H' → RepR K O nw H H' v p → Q v H'
      | .exc c => ∀ C H', Same H H' → mg c = some (.ref C) → E (.ref C) none H'
      | .stuck => False) := h
    unfold runF at h'
    revert h'
    cases hg : g (qs.map Slot.val ++ List.replicate (N.length - qs.length) Slot.un) with
    | ret p => exact fun h v H' s r => h v H' s r
    | next ρ' =>
      intro h σ' H' S' _
      cases nw with
      | false => exact h _ _ S'.same .non
      | true => exact absurd hg (hnw rfl _ _)
    | exc c ρ' => exact fun h C σ' H' e S' _ => h C H' S'.same e
    | brk ρ' => exact False.elim
    | cont ρ' => exact False.elim
    | stuck => exact False.elim
/-- from inside a def: what a body's statements need of its context -/
theorem tk_of {N : List Str} {qual : Str} {scope : Scope} {f : Addr} {cdv : Value} {A : Around} {outer : List PySem.Env} {s : Shared} {H : Hp} {E : XK} : L2N.Takes (cxOf (L2N.CX P w) P w K mg base N qual scope f cdv A outer s H E) (fun cls d _ H => E cls d H) := L2N.takes_of rfl rfl rfl rfl
theorem hp_of {N : List Str} {qual : Str} {scope : Scope} {f : Addr} {cdv : Value} {A : Around} {outer : List PySem.Env} {s : Shared} {H : Hp} {E : XK} : PassesOwn (model P w) (cxOf (L2N.CX P w) P w K mg base N qual scope f cdv A outer s H E).A (cxOf (L2N.CX P w) P w K mg base N qual scope f cdv A outer s H E).env (cxOf (L2N.CX P w) P w K mg base N qual scope f cdv A outer s H E).xe := passes_of rfl
end
structure DefT (K : PySem.W.Frag) (mg : Str → Option Value) (x : Str) (st : Stmt) (ps : List Str) (f : Addr) (fd : FuncData) : Prop where
  F : Fun K x x st f fd
  g : mg x = some (.ref f)
  b : L2.Binds K fd ps []
def DefE (K : PySem.W.Frag) (mg : Str → Option Value) (x : Str) (st : Stmt) (ps : List Str) : Prop := ∃ f fd, DefT K mg x st ps f fd
def Okd (P : Program) (w : World) (K : PySem.W.Frag) (mg : Str → Option Value) (base : Heap) (x : Str) (ps : List Str) (k n : Nat) (nw : Bool) (F : List PV → R PV) : Prop :=
  ∃ f fd, mg x = some (.ref f) ∧ PySem.W.keepIn K (.ref f) = true ∧ L2.Binds K fd ps [] ∧ FnOk P w K mg base (L2N.CX P w) k f fd ps (spF K mg n nw F)
section
variable {P : Program} {w : World} {K : PySem.W.Frag} {mg : Str → Option Value} {base : Heap}
theorem def_ok {x : Str} {st : Stmt} {N ps : List Str} {k n : Nat} {nw : Bool} {g : Rho → Out} (T : DefE K mg x st ps) (S : FnScope N ps (defScope st)) (hn : n = ps.length) (hnw : nw = true → ∀ l, ∀ ρ, g l ≠ .next ρ)
    (hbody : ∀ (f : Addr) (cdv : Value) (A : Around) (outer : List PySem.Env) (s : Shared) (H : Hp) (E : XK), Room k (A.deeper (envOfC x (defScope st) s.heap.objs.size f cdv)) →
      BJ (cxOf (L2N.CX P w) P w K mg base N x (defScope st) f cdv A outer s H E) (fun cls d _ H => E cls d H) nw (defBody st) g) :
    Okd P w K mg base x ps (k + 1) n nw (runF N.length g) := by
  obtain ⟨f, fd, T⟩ := T
  exact ⟨f, fd, T.g, T.F.kp, T.b, fn_mk T.F S hn hnw (hbody f)⟩
variable {X : Cx} {W : WX} {e : Expr} {es : List Expr} {pos p : Pos} {fA : Rho → R (List PV)}
theorem aCons_len {f : Rho → R PV} {g : Rho → R (List PV)} {n : Nat} (h : ∀ ρ ps, g ρ = .ok ps → ps.length = n) : ∀ ρ ps, aCons f g ρ = .ok ps → ps.length = n + 1 := by
  intro ρ ps e
  unfold aCons at e
  revert e
  cases f ρ with
  | ok a =>
    rw [R.bind_ok]
    cases hg : g ρ with
    | ok qs =>
      intro e
      cases e
      rw [List.length_cons, h ρ qs hg]
    | exc c => exact fun e => nomatch e
    | stuck => exact fun e => nomatch e
  | exc c => exact fun e => nomatch e
  | stuck => exact fun e => nomatch e
theorem aNil_len : ∀ ρ ps, aNil ρ = .ok ps → ps.length = 0 := by
  intro ρ ps e
  cases e
  rfl
/-- the parts' lengths, read off the syntax -/
inductive ALen : (Rho → R (List PV)) → Nat → Prop where
  | nil : ALen aNil 0
  | cons {f : Rho → R PV} {g : Rho → R (List PV)} {n : Nat} : ALen g n → ALen (aCons f g) (n + 1)
theorem ALen.ok {g : Rho → R (List PV)} {n : Nat} (h : ALen g n) : ∀ ρ ps, g ρ = .ok ps → ps.length = n := by
  induction h with
  | nil => exact aNil_len
  | cons _ ih => exact aCons_len ih
theorem e_callD {x : Str} {k j n : Nat} {nw : Bool} {F : List PV → R PV} {pn : List Str} (h : Okd X.prog X.w X.K X.mg X.base x pn j n nw F) (hr : Room k X.A) (hjk : j ≤ k) (tk : L2N.Takes X W) (hg : Gl X x) (ha : AJ X W .s (e :: es) fA) (hal : ALen fA n) (hlen : n = es.length + 1 := by rfl) (hdb : (x == ("__debug__" : Str)) = false := by decide)
    (he : starEach (e :: es) X.env = (false, eval e X.env) :: starEach es X.env := by rfl) (hpl : (backTo pos (starEach es X.env)).any (·.1) = false := by rfl) : EJ X W (mdR nw) (.Call (.Name x p) (e :: es) [] pos) (eD F fA) := by
  obtain ⟨f, fd, h1, h2, h3, h4⟩ := h
  have q := e_call (p := p) (pos := pos) (dvs := []) (dps := []) (ds := []) h4 (hr.mono hjk) hg h1 h2 h3 .nil (fun _ _ => .nil) tk ha (by rw [hlen]; rfl) (by rw [← hlen]; exact hal.ok) hdb he hpl
  have e' : eD (fun ps => F (ps ++ [])) fA = eD F fA := by
    funext ρ
    unfold eD
    congr
    funext ps
    rw [List.append_nil]
  rw [e'] at q
  exact q
end
/-- the law's own promise: of the script -/
def spLaw (K : PySem.W.Frag) : Sp := fun vs H Q _ => ∃ (a : Addr) (ns : List Int), vs = [.ref a] ∧ SqL K H a (ns.map V.int) ∧ Only H ∧ ns.length ≤ 63 ∧ (∀ z ∈ ns, Builtin.Int.intBits z ≤ 1048576) ∧ ∀ v H', v = .bl true → Q v H'
theorem bits_log {z : Int} (h : Builtin.Int.intBits z ≤ 1048576) : z.natAbs.log2 < 1048577 := by
  unfold Builtin.Int.intBits at h
  split at h
  · rename_i e
    have e : z.natAbs = 0 := by simpa using e
    rw [e, Nat.log2_zero]; omega
  · omega
/-- bits: each of the script's numbers has at most 2 ^ 20 of them -/
theorem law_impB {P : Program} {w : World} {K : PySem.W.Frag} {mg : Str → Option Value} {base : Heap} {k : Nat} {f : Addr} {fd : FuncData} {ps : List Str} {F : List PV → R PV} (hF : ∀ ns : List Int, ns.length ≤ 63 → (∀ z ∈ ns, z.natAbs.log2 < 1048577) → F [.frz (ns.map PV.int)] = .ok (.bl true))
    (h : FnOk P w K mg base (L2N.CX P w) k f fd ps (spF K mg 1 false F)) : FnOk P w K mg base (L2N.CX P w) k f fd ps (spLaw K) := by
  refine h.imp fun vs H Q E ⟨a, ns, e1, hs, ho, hl, hb, q⟩ => ?_
  subst e1
  refine ⟨[.frz (ns.map PV.int)], fun _ => False, fun _ z => z.elim, .cons (.frz ?_) .nil, rfl, ?_⟩
  · rcases hs with (hs | hs) | hs
    · rcases ho a with z | ⟨o, xs, z⟩
      · rw [z] at hs; cases hs
      · rw [z] at hs; cases hs
    · exact .inl ⟨hs, fun z => z⟩
    · exact .inr fun _ => .inr hs
  · rw [hF ns hl fun z hz => bits_log (hb z hz)]
    intro v H' s r
    cases r
    exact q _ _ rfl
theorem cx_none {P : Program} {w : World} {H : Hp} {s : Shared} {e : Value} {s' : Shared} (h : L2N.CX P w [] H s (fun _ _ _ => False) e s') : False := by
  obtain ⟨_, _, _, _, _, _, _, _, _, _, _, _, z⟩ := h
  exact z
end PL
set_option Elab.async false
set_option linter.all false
set_option maxRecDepth 100000
set_option autoImplicit false
namespace PL
open PySem PySem.Spec L2
open PyProof.Rows hiding St
section
variable {X : Cx} {W : WX} {e a b c : Expr} {pos p : Pos} {f g : Rho → R PV} {es : List Expr} {fA : Rho → R (List PV)}
/-- a constant of the text's top -/
def GlI (mg : Str → Option Value) (x : Str) (i : Int) : Prop := ∃ t, mg x = some (.int i t)
theorem e_glI {x : Str} {i : Int} (h : GlI X.mg x i) (hg : Gl X x) (hd : (x == ("__debug__" : Str)) = false := by decide) : EJ X W .s (.Name x pos) (eC (.int i)) := by
  obtain ⟨t, h⟩ := h
  exact e_const (pe_glob hg h (v := .int i) ⟨t, rfl⟩ hd) fun _ _ _ => .int i
end
def NN (g : Rho → Out) : Prop := ∀ l ρ, g l ≠ .next ρ
theorem nn_e {f : Rho → R PV} {k : PV → Rho → Out} (h : ∀ p l ρ, k p l ≠ .next ρ) : NN (sE f k) := by
  intro l ρ e
  unfold sE at e
  revert e
  cases f l with
  | ok p => exact h p l ρ
  | exc c => exact fun e => nomatch e
  | stuck => exact fun e => nomatch e
theorem nn_ret (f : Rho → R PV) : NN (sRet f) := nn_e fun _ _ _ e => nomatch e
theorem nn_retO (i : Nat) : NN (sRetO i) := by
  intro l ρ e
  unfold sRetO at e
  split at e <;> cases e
theorem nn_seqL {g h : Rho → Out} (a : NN g) : NN (bSeq g h) := by
  intro l ρ e
  unfold bSeq at e
  have n := a l
  revert e n
  cases g l with
  | next ρ1 => exact fun _ n => absurd rfl (n ρ1)
  | _ => exact fun e => nomatch e
theorem nn_seqR {g h : Rho → Out} (a : NN h) : NN (bSeq g h) := by
  intro l ρ e
  unfold bSeq at e
  revert e
  cases g l with
  | next ρ1 => exact fun e => a ρ1 ρ e
  | _ => exact fun e => nomatch e
section
variable {K : PySem.W.Frag} {h : Heap} {mg : Str → Option Value}
theorem defE_mk (X : K.In h) (G : h.Ns mainGlobals mg) {x : Str} {st : Stmt} {ps : List Str} {f : Addr} {od an : Option Addr} {sl : Array (Option Value)} {oc kV dc pm cd ct : Value}
    (a : PySem.W.nsIn K mainGlobals x = some (some (.ref f))) (l : K.lookup f = some ⟨oc, od, .func (PySem.W.fnOf x x (defArgs st) (defBody st) (defScope st) .none kV dc pm an cd ct), sl⟩) (c : PySem.W.codeIn K cd x = true) (k : PySem.W.keepIn K (.ref f) = true)
    (hb : ∀ (kV doc pm : Value) (an : Option Addr) (cdv ct : Value) (us : List Value), us.length = ps.length → bindArgs (PySem.W.fnOf x x (defArgs st) (defBody st) (defScope st) .none kV doc pm an cdv ct) ⟨us, []⟩ = pure (ps.zip us)) : DefE K mg x st ps :=
  ⟨f, _, fun_mk l c k, PySem.W.mg_of X G a, (fun_mk l c k).binds hb⟩
theorem glI_mk (X : K.In h) (G : h.Ns mainGlobals mg) {x : Str} {i : Int} {t : Tok} (a : PySem.W.nsIn K mainGlobals x = some (some (.int i t))) : GlI mg x i := ⟨t, PySem.W.mg_of X G a⟩
theorem excE_mk (X : K.In h) (G : h.Ns mainGlobals mg) {x : Str} {C : Addr} (a : PySem.W.nsIn K mainGlobals x = some (some (.ref C))) (ex : PySem.W.excIn K C [.type "ValueError", .type "Exception", .type "BaseException", .type "object"] "ValueError.__new__" = true)
    (kp : PySem.W.keepIn K (.ref C) = true) (sb : PySem.W.subIn K (.ref C) (.type "BaseException") = some true) (ty : PySem.W.typeIn K (.ref C) = some (.type "type")) : ∃ C, ExcT K mg x C := ⟨C, PySem.W.mg_of X G a, ex, kp, sb, ty⟩
end
end PL
set_option Elab.async false
set_option linter.all false
set_option maxRecDepth 100000
set_option autoImplicit false
namespace PL
open PySem PySem.Spec L2
open PyProof.Rows hiding St
/-- the classes of errors: the one is under the other -/
def subX (c d : Str) : Bool := d == c || d == "LeftError" || d == "ValueError"
/-- a class that isinstance is asked about -/
def ClsQ (K : PySem.W.Frag) (mg : Str → Option Value) (C : Addr) (c d : Str) (u : Value) : Prop := PySem.W.kitOne K (.ref C) u = some (subX c d)
/-- the caught error p, of the class c -/
structure Pn (K : PySem.W.Frag) (mg : Str → Option Value) (p : Addr × Obj) (c : Str) (C : Addr) : Prop where
  g : mg c = some (.ref C)
  x : ExcC K C
  z : L2N.Zn (.ref C) none p.2
  f : ∃ vs, p.2.data = .fields vs
/-- the context bears the caught error a, of the class c -/
def InAir (X : Cx) (a : Addr) (c : Str) : Prop := ∃ oe C, (a, oe) ∈ X.pn ∧ Pn X.K X.mg (a, oe) c C
def isX (i : Nat) (a : Addr) (b : Bool) : Rho → R PV := fun ρ => match ρ[i]? with
  | some (.ex a') => if a' = a then .ok (.bl b) else .stuck
  | _ => .stuck
section
variable {X : Cx} {W : WX} {e en : Expr} {pos p : Pos} {i : Nat} {a : Addr} {c d : Str} {b : Bool}
/-- a name that stands for a class d, u in the heap -/
inductive ClsN (X : Cx) : Expr → Str → Value → Prop where
  | own {x : Str} {C : Addr} {q : Pos} (hg : Gl X x) (hm : X.mg x = some (.ref C)) (hd : (x == ("__debug__" : Str)) = false) : ClsN X (.Name x q) x (.ref C)
  | ty {x : Str} {n : String} {q : Pos} (h : PE X (.Name x q) (tC (.ty n))) : ClsN X (.Name x q) x (.type n)
theorem ClsN.pe {u : Value} (h : ClsN X en d u) : ∃ v, ClsV v u ∧ PE X en (tC v) := by
  cases h with
  | own hg hm hd => exact ⟨_, .own _, pe_glob hg hm (v := .ref _) rfl hd⟩
  | ty h => exact ⟨_, .ty _, h⟩
theorem inst_at {X : Cx} {a C : Addr} {oe : Obj} {s : Shared} (P : Pn X.K X.mg (a, oe) c C) (hget : s.heap.get? a = some oe) : PySem.W.InstAt s.heap a oe C none := by
  obtain ⟨vs, hv⟩ := P.f
  have hz := P.z.zc
  obtain ⟨k1, k2, k3, k4⟩ := oe
  obtain ⟨h1, h2⟩ := hz
  simp only at h1 h2 hv
  subst h1 h2 hv
  exact ⟨hget, rfl, rfl, trivial⟩
theorem call_isX {C : Addr} {oe : Obj} (hp : (a, oe) ∈ X.pn) (P : Pn X.K X.mg (a, oe) c C) : CallR X (.builtin "isinstance") (fun xs H Q => ∃ v u b, xs = [V.ref a, v] ∧ ClsV v u ∧ PySem.W.kitOne X.K (.ref C) u = some b ∧ Q (.bl b) H) := by
  intro pins s σ H xs us Q I r ⟨v, u, b, e1, k, e2, q⟩
  subst e1
  obtain ⟨w1, w2, e3, r1, r2⟩ := vals2 r
  subst e3
  cases (show w1 = Value.ref a from r1)
  have e4 := k.eq r2
  subst e4
  have J := inst_at P (I.pin (a, oe) (List.mem_append_left _ hp)).1
  exact PySem.W.kia_one (PySem.W.handS_kitx_exc P.x.hg P.x.hk P.x.hs P.x.hd P.x.ha P.x.hn P.x.ht P.x.hm) I.kIn J e2 (fun z => nomatch z) fun tk => ⟨.bl b, H, I.tok tk, rfl, q⟩
theorem call_isXT {C : Addr} {oe : Obj} (hp : (a, oe) ∈ X.pn) (P : Pn X.K X.mg (a, oe) c C) : CallR X (.builtin "isinstance") (fun xs H Q => ∃ tp cs us b, xs = [V.ref a, .ref tp] ∧ H tp = some (.tup cs) ∧ Paired ClsV cs us ∧ PySem.W.kitAny X.K (.ref C) us = some b ∧ Q (.bl b) H) := by
  intro pins s σ H xs us Q I r ⟨tp, cs, ws, b, e1, hT, k, e2, q⟩
  subst e1
  obtain ⟨w1, w2, e3, r1, r2⟩ := vals2 r
  subst e3
  cases (show w1 = Value.ref a from r1)
  cases (show w2 = Value.ref tp from r2)
  obtain ⟨_, its, rv, o, h1, h2, n, h3⟩ := (show ObjOk X.prog X.w H s.heap tp (.tup cs) from I.hok tp _ hT)
  have e4 := ClsV.all k rv
  subst e4
  obtain ⟨k1, k2, k3, k4⟩ := o
  dsimp only at h2 h3
  subst h2 h3
  have J := inst_at P (I.pin (a, oe) (List.mem_append_left _ hp)).1
  exact PySem.W.kia_tup (PySem.W.handS_kitx_exc P.x.hg P.x.hk P.x.hs P.x.hd P.x.ha P.x.hn P.x.ht P.x.hm) I.kIn J h1 e2 (fun z => nomatch z) fun tk => ⟨.bl b, H, I.tok tk, rfl, q⟩
theorem exs_at {K : PySem.W.Frag} {H0 H : Hp} {O0 : Addr → Prop} {σ : St} {ρ : Rho} (S : StR K H0 O0 H σ ρ) (h : ρ[i]? = some (.ex a)) : σ[i]? = some (some (.ref a)) := S.exs i a h
/-- isinstance(e, D), e the caught error -/
theorem e_isX {u : Value} (A : InAir X a c) (mg : X.mg "isinstance" = none) (hg : Gl X "isinstance") (ho : PE X e (tVar i)) (hn : ClsN X en d u) (hk : ∀ C, X.mg c = some (.ref C) → ClsQ X.K X.mg C c d u) (he : starEach [e, en] X.env = (false, eval e X.env) :: starEach [en] X.env := by rfl) (he2 : starEach [en] X.env = (false, eval en X.env) :: starEach [] X.env := by rfl) (hpl : (backTo pos (starEach [en] X.env)).any (·.1) = false := by rfl) :
    EJ X W .s (.Call (.Name "isinstance" p) [e, en] [] pos) (isX i a (subX c d)) := by
  obtain ⟨oe, C, hp, P⟩ := A
  obtain ⟨v, hv, hpe⟩ := hn.pe
  refine pe_imp (pe_callB (call_isX hp P) hg mg PyProof.Rows.boot_isinstance (pa_cons ho (pa_cons hpe pa_nil he2) he) (by decide) (by decide) he hpl) fun σ H Q ⟨H0, O0, ρ, S, G⟩ => ?_
  unfold isX at G
  split at G
  · rename_i a' ha
    split at G
    · rename_i ea
      subst ea
      exact ⟨.ref a', exs_at S ha, v, u, _, rfl, hv, hk C P.g, G _ _ (Same.refl _) (.bl _)⟩
    · exact G.elim
  · exact G.elim
/-- the classes of a tuple -/
inductive ClsL (X : Cx) : List Expr → List Str → List Value → Prop where
  | nil : ClsL X [] [] []
  | cons {en : Expr} {ens : List Expr} {d : Str} {ds : List Str} {u : Value} {us : List Value} (h : ClsN X en d u) (r : ClsL X ens ds us) (he : starEach (en :: ens) X.env = (false, eval en X.env) :: starEach ens X.env) : ClsL X (en :: ens) (d :: ds) (u :: us)
def tCs (vs : List V) : TA := fun _ H Q => Q vs H
theorem ClsL.pa {ens : List Expr} {ds : List Str} {us : List Value} (h : ClsL X ens ds us) : ∃ vs, vs.length = ens.length ∧ Paired ClsV vs us ∧ PA X ens (tCs vs) := by
  induction h with
  | nil => exact ⟨[], rfl, .nil, ⟨fun pos pins s σ H Q I q => pa_nil.run pos pins s σ H Q I q⟩⟩
  | cons h r he ih =>
    obtain ⟨vs, l, pv, pa⟩ := ih
    obtain ⟨v, hv, hpe⟩ := h.pe
    exact ⟨v :: vs, by rw [List.length_cons, l]; rfl, .cons hv pv, ⟨fun pos pins s σ H Q I q => (pa_cons hpe pa he).run pos pins s σ H Q I q⟩⟩
theorem kitAny_X {K : PySem.W.Frag} {mg : Str → Option Value} {C : Addr} : ∀ {ds : List Str} {us : List Value}, Paired (ClsQ K mg C c) ds us → PySem.W.kitAny K (.ref C) us = some (ds.any (subX c))
  | _, _, .nil => kitAny_nil
  | _, _, .cons h r => kitAny_cons h (fun e => by rw [List.any_cons, e, Bool.false_or]; exact kitAny_X r) fun e => by rw [List.any_cons, e]; rfl
theorem e_isXT {ens : List Expr} {ds : List Str} {us : List Value} {k : Nat} {pt : Pos} (A : InAir X a c) (mg : X.mg "isinstance" = none) (hg : Gl X "isinstance") (ho : PE X e (tVar i)) (hn : ClsL X ens ds us) (hz : ens.length ≤ 64) (hk : ∀ C, X.mg c = some (.ref C) → Paired (ClsQ X.K X.mg C c) ds us) (he : starEach [e, .Tuple ens k pt] X.env = (false, eval e X.env) :: starEach [.Tuple ens k pt] X.env := by rfl)
    (he2 : starEach [.Tuple ens k pt] X.env = (false, eval (.Tuple ens k pt) X.env) :: starEach [] X.env := by rfl) (hpl : (backTo pos (starEach [.Tuple ens k pt] X.env)).any (·.1) = false := by rfl) :
    EJ X W .s (.Call (.Name "isinstance" p) [e, .Tuple ens k pt] [] pos) (isX i a (ds.any (subX c))) := by
  obtain ⟨oe, C, hp, P⟩ := A
  obtain ⟨vs, l, pv, pa⟩ := hn.pa
  refine pe_imp (pe_callB (call_isXT hp P) hg mg PyProof.Rows.boot_isinstance (pa_cons ho (pa_cons (pe_tup pa) pa_nil he2) he) (by decide) (by decide) he hpl) fun σ H Q ⟨H0, O0, ρ, S, G⟩ => ?_
  unfold isX at G
  split at G
  · rename_i a' ha
    split at G
    · rename_i ea
      subst ea
      refine ⟨.ref a', exs_at S ha, ?_⟩
      refine ⟨by rw [l, sizeLine_eq]; omega, fun t ht => ⟨t, vs, us, _, rfl, upd_same, pv, kitAny_X (hk C P.g), G _ _ (same_new ht) (.bl _)⟩⟩
    · exact G.elim
  · exact G.elim
end
/-- the call of such a def -/
def hotC (i : Nat) (a : Addr) (F : Addr → R PV) : Rho → R PV := fun ρ => match ρ[i]? with
  | some (.ex a') => if a' = a then (match F a with
    | .ok p => .ok p
    | _ => .stuck) else .stuck
  | _ => .stuck
/-- behind the suite -/
def behindX (i : Nat) : Out → Out
  | .next ρ => .next (ρ.set i .un)
  | .brk ρ => .brk (ρ.set i .un)
  | .cont ρ => .cont (ρ.set i .un)
  | .ret p => .ret p
  | _ => .stuck
open Classical in
noncomputable def tryX (i : Nat) (su : Addr → Rho → Out) (ρ : Rho) : Out := if h : ∃ o, ∀ a, behindX i (su a (ρ.set i (.ex a))) = o then h.choose else .stuck
theorem tryX_of {i : Nat} {su : Addr → Rho → Out} {ρ : Rho} {o : Out} (h : ∀ a, behindX i (su a (ρ.set i (.ex a))) = o) : tryX i su ρ = o := by
  have hx : ∃ o, ∀ a, behindX i (su a (ρ.set i (.ex a))) = o := ⟨o, h⟩
  unfold tryX
  rw [dif_pos hx]
  exact (hx.choose_spec 0).symm.trans (h 0)
theorem tryX_at {i : Nat} {su : Addr → Rho → Out} {ρ : Rho} (h : tryX i su ρ ≠ .stuck) (a : Addr) : behindX i (su a (ρ.set i (.ex a))) = tryX i su ρ := by
  by_cases hx : ∃ o, ∀ a, behindX i (su a (ρ.set i (.ex a))) = o
  · obtain ⟨o, ho⟩ := hx
    rw [tryX_of ho, ho a]
  · unfold tryX at h
    rw [dif_neg hx] at h
    exact absurd rfl h
/-- the context of the suite -/
def suiteC (X : Cx) (a : Addr) (pn : List (Addr × Obj)) : Cx := X.suite a pn
/-- cs: the classes that the clause may take -/
noncomputable def sTry (i : Nat) (cs : List Str) (body : Rho → Out) (su : Str → Addr → Rho → Out) : Rho → Out := fun ρ => match body ρ with
  | .exc c ρ' => if c ∈ cs then tryX i (su c) ρ' else .stuck
  | o => o
section
variable {X : Cx} {W : WX} {nw : Bool} {x n : Str} {cv : Value} {i : Nat} {body suite : List Stmt} {b₀ : Stmt} {np pos pos' : Pos} {g : Rho → Out} {su : Str → Addr → Rho → Out} {cs : List Str}
theorem s_try (hs : X.stack = X.env :: X.outer) (hf : X.env.frame = some X.env.locals) (hN : X.N.Nodup) (hi : X.N[i]? = some n) (hln : X.env.kindOf n = some .local) (hc : Names X x cv) (tk : L2N.Takes X W)
    (hex : ∀ c ∈ cs, ∀ C, X.mg c = some (.ref C) → PySem.W.exmOne X.K (.ref C) cv = some true ∧ ExcC X.K C)
    (hb : ∀ (W' : WX) (pn : List (Addr × Obj)) (xe : Value → Shared → Prop), L2N.Takes (X.tr pn xe) W' → PassesOwn (model X.prog X.w) X.A X.env xe → BJ (X.tr pn xe) W' nw body g)
    (hsu : ∀ (p : Addr × Obj) (pn : List (Addr × Obj)) (c : Str) (C : Addr), c ∈ cs → Pn X.K X.mg p c C → L2H.Hot1 (X.A.mark (some (.ref p.1))) p → BJ (suiteC X p.1 (p :: pn)) (fun _ _ _ _ => False) nw (b₀ :: suite) (su c p.1)) :
    SJ X W nw (.Try body [.ExceptHandler (some (.Name x np)) (some n) (b₀ :: suite) pos'] [] [] pos) (sTry i cs g su) := by
  refine ps_imp (L2N.ps_try_as (tb := fun W' => tS X.K X.mg W' nw g) (ts := fun a cls d D σ H => ∃ c C, c ∈ cs ∧ cls = .ref C ∧ d = none ∧ X.mg c = some (.ref C) ∧ ExcC X.K C ∧ tS X.K X.mg (fun _ _ _ _ => False) nw (su c a) D σ H) hs hf hN hi hln hc tk hb (fun a oe cls d pn hz hv => ⟨fun pins s σ H D I ⟨c, C, hcs, e1, e2, hm, hC, h⟩ => ?_⟩)) fun D σ H ⟨H0, O0, ρ, S, G⟩ => ⟨H0, O0, ρ, S, ?_⟩
  · subst e1 e2
    obtain ⟨vs, hv'⟩ := hv
    exact (hsu (a, oe) pn c C hcs ⟨hm, hC, hz, vs, hv'⟩ ⟨rfl, vs, hv', hz.2.2 vs hv'⟩).run pins s σ H D I h
  · unfold sTry at G
    revert G
    cases g ρ with
    | next ρ' => exact fun G => G
    | brk ρ' => exact fun G => G
    | cont ρ' => exact fun G => G
    | ret p => exact fun G => G
    | stuck => exact fun G => G
    | exc c ρ' =>
      dsimp only
      split
      · rename_i hcs
        intro G C σ' H' hm S' k'
        obtain ⟨h1, h2⟩ := hex c hcs C hm
        refine ⟨true, h1, fun _ a na => ⟨c, C, hcs, rfl, rfl, hm, h2, ?_⟩, fun z => nomatch z⟩
        have ns : tryX i (su c) ρ' ≠ .stuck := fun z => by rw [z] at G; exact G
        have ea := tryX_at ns a
        rw [← ea] at G
        have S2 : StR X.K H0 O0 H' (σ'.set i (some (.ref a))) (ρ'.set i (.ex a)) := S'.set (s := .ex a) (fun _ z => nomatch z) (fun _ z => nomatch z) fun b z => by cases z; rfl
        have k2 : Kept (OO O0 σ ρ) H (OO O0 (σ'.set i (some (.ref a))) (ρ'.set i (.ex a))) H' := k'.trans (kept_set (s := .ex a) (fun _ z => nomatch z) (Same.refl _))
        refine ⟨H0, O0, _, S2, ?_⟩
        have back : ∀ {σ2 : St} {ρ2 : Rho} {H2 : Hp}, StR X.K H0 O0 H2 σ2 ρ2 → Kept (OO O0 (σ'.set i (some (.ref a))) (ρ'.set i (.ex a))) H' (OO O0 σ2 ρ2) H2 → StR X.K H0 O0 H2 (σ2.set i none) (ρ2.set i .un) ∧ Kept (OO O0 σ ρ) H (OO O0 (σ2.set i none) (ρ2.set i .un)) H2 := fun S3 k3 =>
          ⟨S3.set (s := .un) (fun _ z => nomatch z) (fun _ z => nomatch z), (k2.trans k3).trans (kept_set (s := .un) (fun _ z => nomatch z) (Same.refl _))⟩
        revert G
        cases su c a (ρ'.set i (.ex a)) with
        | next ρ2 => exact fun G σ2 H2 S3 k3 => G _ _ (back S3 k3).1 (back S3 k3).2
        | brk ρ2 => exact fun G σ2 H2 S3 k3 => G _ _ (back S3 k3).1 (back S3 k3).2
        | cont ρ2 => exact fun G σ2 H2 S3 k3 => G _ _ (back S3 k3).1 (back S3 k3).2
        | ret p => exact fun G => G
        | exc c ρ2 => exact fun G => G.elim
        | stuck => exact fun G => G.elim
      · exact fun G => G.elim
end
theorem takesN {X : Cx} : L2N.Takes X (fun _ _ _ _ => False) := fun _ _ x => by
  obtain ⟨_, _, _, _, _, _, _, _, _, _, _, _, _, _, _, _, z⟩ := x
  exact z.elim
def KQ (K : PySem.W.Frag) (mg : Str → Option Value) (c d : Str) : Prop := ∀ C D, mg c = some (.ref C) → mg d = some (.ref D) → PySem.W.kitOne K (.ref C) (.ref D) = some (subX c d)
def KE (K : PySem.W.Frag) (mg : Str → Option Value) (c d : Str) : Prop := ∀ C D, mg c = some (.ref C) → mg d = some (.ref D) → PySem.W.exmOne K (.ref C) (.ref D) = some true ∧ ExcC K C
theorem fa_nil {α : Type} {P : α → Prop} : ∀ c ∈ ([] : List α), P c := fun _ h => nomatch h
theorem fa_cons {α : Type} {P : α → Prop} {c : α} {l : List α} (h : P c) (r : ∀ c ∈ l, P c) : ∀ d ∈ c :: l, P d := fun d hd => by
  rcases List.mem_cons.mp hd with e | hd
  · rw [e]; exact h
  · exact r d hd
section
variable {K : PySem.W.Frag} {h : Heap} {mg : Str → Option Value} {c d : Str} {U V' : Addr}
theorem kq_mk (X : K.In h) (G : h.Ns mainGlobals mg) {b : Bool} (a1 : PySem.W.nsIn K mainGlobals c = some (some (.ref U))) (a2 : PySem.W.nsIn K mainGlobals d = some (some (.ref V'))) (k : PySem.W.kitOne K (.ref U) (.ref V') = some b) (hb : b = subX c d) : KQ K mg c d := fun C D h1 h2 => by
  cases h1.symm.trans (PySem.W.mg_of X G a1)
  cases h2.symm.trans (PySem.W.mg_of X G a2)
  rw [← hb]; exact k
theorem subX_VE {c : Str} : subX c "ValueError" = true := by
  unfold subX
  rw [show (("ValueError" : Str) == "ValueError") = true by decide, Bool.or_true]
theorem kv_mk (X : K.In h) (G : h.Ns mainGlobals mg) (a1 : PySem.W.nsIn K mainGlobals c = some (some (.ref U))) (k : PySem.W.kitOne K (.ref U) (.type "ValueError") = some true) : ∀ C, mg c = some (.ref C) → PySem.W.kitOne K (.ref C) (.type "ValueError") = some (subX c "ValueError") := fun C h1 => by
  cases h1.symm.trans (PySem.W.mg_of X G a1)
  rw [subX_VE]
  exact k
theorem ke_mk (X : K.In h) (G : h.Ns mainGlobals mg) (a1 : PySem.W.nsIn K mainGlobals c = some (some (.ref U))) (a2 : PySem.W.nsIn K mainGlobals d = some (some (.ref V'))) (lb : PySem.W.subIn K (.ref V') (.type "BaseException") = some true) (ld : PySem.W.hasDictIn K V' = true) (lt : PySem.W.typeIn K (.ref V') = some (.type "type")) (s : PySem.W.subIn K (.ref U) (.ref V') = some true) (x : ExcC K U) : KE K mg c d := fun C D h1 h2 => by
  cases h1.symm.trans (PySem.W.mg_of X G a1)
  cases h2.symm.trans (PySem.W.mg_of X G a2)
  exact ⟨PySem.W.exm_ref lb ld lt s, x⟩
end
end PL
set_option Elab.async false
set_option linter.all false
set_option maxRecDepth 100000
set_option autoImplicit false
namespace PL
open PySem PySem.Spec L2
open PyProof.Rows hiding St
end PL
set_option Elab.async false
set_option linter.all false
set_option maxRecDepth 100000
set_option autoImplicit false
namespace PL
open PySem PySem.Spec L2
open PyProof.Rows hiding St
end PL
set_option Elab.async false
set_option linter.all false
set_option maxRecDepth 100000
set_option autoImplicit false
namespace PL
open PySem PySem.Spec L2
open PyProof.Rows hiding St
end PL
set_option Elab.async false
set_option linter.all false
set_option maxRecDepth 100000
set_option autoImplicit false
namespace PL
open PySem PySem.Spec L2
open PyProof.Rows hiding St
/-- an equation that is not taken for a computation -/
theorem nr {α : Sort _} {a b : α} (h : a = b) : a = b := h
section
variable {p q x y : PV} {ρ : Rho} {f g h : Rho → R PV} {i j : Nat} {a b c : Int} {k l : Bool} {ps qs : List PV} {s t : Slot}
@[simp] theorem eC_eq : eC p ρ = .ok p := nr rfl
@[simp] theorem eV0 : eV 0 (.val p :: ρ) = .ok p := nr rfl
@[simp] theorem eVs : eV (i + 1) (s :: ρ) = eV i ρ := by simp [eV]
@[simp] theorem eVo0 : eVo 0 (.val p :: ρ) = .ok p := nr rfl
@[simp] theorem eVo0' : eVo 0 (.own ps :: ρ) = .ok (.lst ps) := nr rfl
@[simp] theorem eVos : eVo (i + 1) (s :: ρ) = eVo i ρ := by simp [eVo]
@[simp] theorem bind1 {α β : Type} (a : α) (k : α → R β) : (R.ok a).bind k = k a := nr rfl
@[simp] theorem bind2 {α β : Type} (c : Str) (k : α → R β) : (R.exc c : R α).bind k = .exc c := nr rfl
@[simp] theorem bind3 {α β : Type} (k : α → R β) : (R.stuck : R α).bind k = .stuck := nr rfl
@[simp] theorem e2_eq {w : PV → PV → R PV} : e2 w f g ρ = (f ρ).bind fun x => (g ρ).bind fun y => w x y := nr rfl
@[simp] theorem e1_eq {w : PV → R PV} : e1 w f ρ = (f ρ).bind w := nr rfl
@[simp] theorem eD_eq {w : List PV → R PV} {fA : Rho → R (List PV)} : eD w fA ρ = (fA ρ).bind w := nr rfl
@[simp] theorem aNil_eq : aNil ρ = .ok [] := nr rfl
@[simp] theorem aCons_eq {fA : Rho → R (List PV)} : aCons f fA ρ = (f ρ).bind fun p => (fA ρ).bind fun ps => .ok (p :: ps) := nr rfl
@[simp] theorem tB1_eq : tB1 f ρ = (f ρ).bind asB := nr rfl
@[simp] theorem asB_eq : asB (.bl k) = .ok k := nr rfl
@[simp] theorem asI_eq : asI (.int a) = .ok a := nr rfl
@[simp] theorem tNt_eq {u : Rho → R Bool} : tNt u ρ = (u ρ).bind fun b => .ok (!b) := nr rfl
@[simp] theorem tAn_eq {u v : Rho → R Bool} : tAn u v ρ = (u ρ).bind fun b => if b = true then v ρ else .ok false := nr rfl
@[simp] theorem tOr_eq {u v : Rho → R Bool} : tOr' u v ρ = (u ρ).bind fun b => if b = true then .ok true else v ρ := nr rfl
@[simp] theorem eAn_eq : eAn f g ρ = (f ρ).bind fun p => (asB p).bind fun b => if b = true then g ρ else .ok (.bl false) := nr rfl
@[simp] theorem eOr_eq : eOr f g ρ = (f ρ).bind fun p => (asB p).bind fun b => if b = true then .ok (.bl true) else g ρ := nr rfl
@[simp] theorem notP_eq : notP (.bl k) = .ok (.bl (!k)) := nr rfl
@[simp] theorem negP_eq : negP (.int a) = .ok (.int (-a)) := nr rfl
@[simp] theorem eIf_eq {u : Rho → R Bool} : eIf u f g ρ = (u ρ).bind fun b => if b = true then f ρ else g ρ := nr rfl
@[simp] theorem eChain_eq {w1 w2 : PV → PV → R PV} : eChain w1 w2 f g h ρ = (f ρ).bind fun x => (g ρ).bind fun y => (w1 x y).bind fun z => (asB z).bind fun k => if k = true then (h ρ).bind fun w => w2 y w else .ok (.bl false) := nr rfl
@[simp] theorem addP_ii : addP (.int a) (.int b) = .ok (.int (a + b)) := nr rfl
@[simp] theorem iadd_ii : intP (fun _ _ => true) (fun a b => PV.int (a + b)) (.int a) (.int b) = .ok (.int (a + b)) := nr rfl
@[simp] theorem subP_ii : subP (.int a) (.int b) = .ok (.int (a - b)) := nr rfl
@[simp] theorem ltP_ii : ltP (.int a) (.int b) = .ok (.bl (decide (a < b))) := nr rfl
@[simp] theorem leP_ii : leP (.int a) (.int b) = .ok (.bl (decide (a ≤ b))) := nr rfl
@[simp] theorem gtP_ii : gtP (.int a) (.int b) = .ok (.bl (decide (b < a))) := nr rfl
@[simp] theorem geP_ii : geP (.int a) (.int b) = .ok (.bl (decide (b ≤ a))) := nr rfl
theorem mulP_ii (h : okMul a b = true) : mulP (.int a) (.int b) = .ok (.int (a * b)) := by
  show (if okMul a b = true then _ else _) = _
  rw [if_pos h]
theorem modP_ii (h : b ≠ 0) : modP (.int a) (.int b) = .ok (.int (a.fmod b)) := by
  show (if decide (b ≠ 0) = true then _ else _) = _
  rw [if_pos (decide_eq_true h)]
theorem modP_pos (h : 0 < b) : modP (.int a) (.int b) = .ok (.int (a % b)) := by
  rw [modP_ii (by omega), Int.fmod_eq_emod_of_nonneg a (by omega)]
theorem log2_lt {n m : Nat} (h : n < 2 ^ m) (hm : 0 < m) : n.log2 < m := by
  by_cases h0 : n = 0
  · subst h0; simpa using hm
  · exact (Nat.log2_lt h0).mpr h
theorem fdivP_ii (h : b ≠ 0) (h2 : b.natAbs < 2 ^ 9000) : fdivP (.int a) (.int b) = .ok (.int (a.fdiv b)) := by
  show (if okDiv a b = true then _ else _) = _
  have h3 : b.natAbs.log2 < 9000 := log2_lt h2 (by omega)
  rw [if_pos]
  show (decide (b ≠ 0) && decide (b.natAbs.log2 < 9000)) = true
  rw [decide_eq_true h, decide_eq_true h3] <;> rfl
theorem fdivP_pos (h : 0 < b) (h2 : b < 2 ^ 9000) : fdivP (.int a) (.int b) = .ok (.int (a / b)) := by
  rw [fdivP_ii (by omega) (by omega), Int.fdiv_eq_ediv_of_nonneg a (by omega)]
theorem divmodP_pos (h : 0 < b) (h2 : b < 2 ^ 9000) : divmodP [.int a, .int b] = .ok (.tup [.int (a / b), .int (a % b)]) := by
  unfold divmodP
  dsimp only
  have h3 : b.natAbs.log2 < 9000 := log2_lt (by omega) (by omega)
  rw [if_pos ⟨h, h3⟩]
theorem okMul_of {m n : Nat} (ha : a.natAbs < 2 ^ m) (hb : b.natAbs < 2 ^ n) (h : m + n ≤ 100000000) (hm : 0 < m) (hn : 0 < n) : okMul a b = true := by
  have h1 := log2_lt ha hm
  have h2 := log2_lt hb hn
  exact decide_eq_true (by omega)
theorem powP_ii (h0 : 0 ≤ b) (h1 : b ≤ 1000000) (h2 : a.natAbs < 2 ^ 64) : powP (.int a) (.int b) = .ok (.int (a ^ b.toNat)) := by
  show (if okPow a b = true then _ else _) = _
  rw [if_pos]
  show (decide (0 ≤ b) && decide (b ≤ 1000000) && decide (a.natAbs < 2 ^ 64)) = true
  rw [decide_eq_true h0, decide_eq_true h1, decide_eq_true h2] <;> rfl
/-- what may be compared -/
@[simp] theorem okD_int {n : Nat} : okD n (.int a) = true := by cases n <;> rfl
@[simp] theorem okD_bl {n : Nat} : okD n (.bl k) = true := by cases n <;> rfl
@[simp] theorem okD_non {n : Nat} : okD n .non = true := by cases n <;> rfl
@[simp] theorem okD_lst {n : Nat} : okD (n + 1) (.lst ps) = ps.all (okD n) := nr rfl
@[simp] theorem okD_tup {n : Nat} : okD (n + 1) (.tup ps) = ps.all (okD n) := nr rfl
@[simp] theorem okD_frz {n : Nat} : okD (n + 1) (.frz ps) = ps.all (okD n) := nr rfl
@[simp] theorem okD_str {n : Nat} {z : Str} : okD n (.str z) = PyData.strOk z := by cases n <;> rfl
@[simp] theorem eqV_ii : eqV' (.int a) (.int b) = (a == b) := by simp only [eqV']
@[simp] theorem eqV_bb : eqV' (.bl k) (.bl l) = (k == l) := by simp only [eqV']
@[simp] theorem eqV_ss {u v : Str} : eqV' (.str u) (.str v) = (u == v) := by simp only [eqV']
@[simp] theorem eqV_ll : eqV' (.lst ps) (.lst qs) = eqVs ps qs := by simp only [eqV']
@[simp] theorem eqV_tt : eqV' (.tup ps) (.tup qs) = eqVs ps qs := by simp only [eqV']
@[simp] theorem eqVs_nn : eqVs [] [] = true := by simp only [eqVs]
@[simp] theorem eqVs_cc : eqVs (p :: ps) (q :: qs) = (eqV' p q && eqVs ps qs) := by simp only [eqVs]
@[simp] theorem eqVs_cn : eqVs (p :: ps) [] = false := by simp only [eqVs]
@[simp] theorem eqVs_nc : eqVs [] (q :: qs) = false := by simp only [eqVs]
theorem eqP_ok (h : okD 30 p = true) (h2 : okD 30 q = true) : eqP p q = .ok (.bl (eqV' p q)) := by
  unfold eqP; rw [h, h2, Bool.and_self, if_pos rfl]
theorem neP_ok (h : okD 30 p = true) (h2 : okD 30 q = true) : neP p q = .ok (.bl (!eqV' p q)) := by
  unfold neP; rw [h, h2, Bool.and_self, if_pos rfl]
@[simp] theorem eqP_ii : eqP (.int a) (.int b) = .ok (.bl (a == b)) := by rw [eqP_ok okD_int okD_int, eqV_ii]
@[simp] theorem neP_ii : neP (.int a) (.int b) = .ok (.bl (!(a == b))) := by rw [neP_ok okD_int okD_int, eqV_ii]
@[simp] theorem eqP_bb : eqP (.bl k) (.bl l) = .ok (.bl (k == l)) := by rw [eqP_ok okD_bl okD_bl, eqV_bb]
@[simp] theorem neP_bb : neP (.bl k) (.bl l) = .ok (.bl (!(k == l))) := by rw [neP_ok okD_bl okD_bl, eqV_bb]
theorem eqVs_ints : ∀ ns ms : List Int, eqVs (ns.map PV.int) (ms.map PV.int) = (ns == ms)
  | [], [] => by simp
  | [], _ :: _ => by simp
  | _ :: _, [] => by simp
  | n :: ns, m :: ms => by simp only [List.map_cons, eqVs_cc, eqV_ii, eqVs_ints ns ms]; rfl
/-- kinds -/
@[simp] theorem isi_ii : isiP "int" (.int a) = .ok (.bl true) := by have e : kitB "int" "int" = some true := by decide +kernel
                                                                    unfold isiP tyN; rw [e]
@[simp] theorem isi_ib : isiP "int" (.bl k) = .ok (.bl true) := by have e : kitB "bool" "int" = some true := by decide +kernel
                                                                   unfold isiP tyN; rw [e]
@[simp] theorem isi_in : isiP "int" .non = .ok (.bl false) := by have e : kitB "NoneType" "int" = some false := by decide +kernel
                                                                 unfold isiP tyN; rw [e]
@[simp] theorem isi_is {z : Str} : isiP "int" (.str z) = .ok (.bl false) := by have e : kitB "str" "int" = some false := by decide +kernel
                                                                               unfold isiP tyN; rw [e]
@[simp] theorem isi_it : isiP "int" (.tup ps) = .ok (.bl false) := by have e : kitB "tuple" "int" = some false := by decide +kernel
                                                                      unfold isiP tyN; rw [e]
@[simp] theorem isi_il : isiP "int" (.lst ps) = .ok (.bl false) := by have e : kitB "list" "int" = some false := by decide +kernel
                                                                      unfold isiP tyN; rw [e]
@[simp] theorem isi_if : isiP "int" (.frz ps) = .ok (.bl false) := by have e : kitB "list" "int" = some false := by decide +kernel
                                                                      unfold isiP tyN; rw [e]
@[simp] theorem isi_id : isiP "int" .dct = .ok (.bl false) := by have e : kitB "dict" "int" = some false := by decide +kernel
                                                                 unfold isiP tyN; rw [e]
@[simp] theorem isi_bi : isiP "bool" (.int a) = .ok (.bl false) := by have e : kitB "int" "bool" = some false := by decide +kernel
                                                                      unfold isiP tyN; rw [e]
@[simp] theorem isi_bb : isiP "bool" (.bl k) = .ok (.bl true) := by have e : kitB "bool" "bool" = some true := by decide +kernel
                                                                    unfold isiP tyN; rw [e]
def isT : PV → Bool
  | .tup _ => true
  | _ => false
def isL : PV → Bool
  | .lst _ | .frz _ => true
  | _ => false
theorem isi_tuple : isiP "tuple" p = .ok (.bl (isT p)) := by
  have e1 : kitB "NoneType" "tuple" = some false := by decide +kernel
  have e2 : kitB "bool" "tuple" = some false := by decide +kernel
  have e3 : kitB "int" "tuple" = some false := by decide +kernel
  have e4 : kitB "str" "tuple" = some false := by decide +kernel
  have e5 : kitB "tuple" "tuple" = some true := by decide +kernel
  have e6 : kitB "list" "tuple" = some false := by decide +kernel
  have e7 : kitB "dict" "tuple" = some false := by decide +kernel
  cases p <;> simp [isiP, tyN, e1, e2, e3, e4, e5, e6, e7, isT]
theorem isi_list : isiP "list" p = .ok (.bl (isL p)) := by
  have e1 : kitB "NoneType" "list" = some false := by decide +kernel
  have e2 : kitB "bool" "list" = some false := by decide +kernel
  have e3 : kitB "int" "list" = some false := by decide +kernel
  have e4 : kitB "str" "list" = some false := by decide +kernel
  have e5 : kitB "tuple" "list" = some false := by decide +kernel
  have e6 : kitB "list" "list" = some true := by decide +kernel
  have e7 : kitB "dict" "list" = some false := by decide +kernel
  cases p <;> simp [isiP, tyN, e1, e2, e3, e4, e5, e6, e7, isL]
def isB : PV → Bool
  | .bl _ => true
  | _ => false
theorem isi_bool : isiP "bool" p = .ok (.bl (isB p)) := by
  have e1 : kitB "NoneType" "bool" = some false := by decide +kernel
  have e2 : kitB "bool" "bool" = some true := by decide +kernel
  have e3 : kitB "int" "bool" = some false := by decide +kernel
  have e4 : kitB "str" "bool" = some false := by decide +kernel
  have e5 : kitB "tuple" "bool" = some false := by decide +kernel
  have e6 : kitB "list" "bool" = some false := by decide +kernel
  have e7 : kitB "dict" "bool" = some false := by decide +kernel
  cases p <;> simp [isiP, tyN, e1, e2, e3, e4, e5, e6, e7, isB]
/-- whole numbers -/
def isW : PV → Bool
  | .int _ => true
  | _ => false
/-- the body of is_whole, of the laws' own -/
@[simp] theorem isW_int (a : Int) : isW (.int a) = true := rfl
theorem whole_eq : (isiP "int" p).bind (fun x => (asB x).bind fun b => if b = true then (isiP "bool" p).bind notP else .ok (.bl false)) = .ok (.bl (isW p)) := by
  rw [isi_bool]
  cases p <;> simp [isW, isB]
/-- statements -/
@[simp] theorem then_next {k : Rho → Out} : (Out.next ρ).then k = k ρ := nr rfl
@[simp] theorem then_ret {k : Rho → Out} : (Out.ret p).then k = .ret p := nr rfl
@[simp] theorem then_exc {k : Rho → Out} {z : Str} : (Out.exc z ρ).then k = .exc z ρ := nr rfl
@[simp] theorem then_stuck {k : Rho → Out} : Out.stuck.then k = .stuck := nr rfl
@[simp] theorem then_brk {k : Rho → Out} : (Out.brk ρ).then k = .brk ρ := nr rfl
@[simp] theorem then_cont {k : Rho → Out} : (Out.cont ρ).then k = .cont ρ := nr rfl
@[simp] theorem bNil_eq : bNil ρ = .next ρ := nr rfl
@[simp] theorem bSeq_eq {u v : Rho → Out} : bSeq u v ρ = (u ρ).then v := nr rfl
/-- an expression's end within a statement -/
def R.st (r : R PV) (ρ : Rho) (k : PV → Out) : Out := match r with
  | .ok p => k p
  | .exc c => .exc c ρ
  | .stuck => .stuck
@[simp] theorem st_ok {k : PV → Out} : (R.ok p).st ρ k = k p := nr rfl
@[simp] theorem st_exc {k : PV → Out} {z : Str} : (R.exc z).st ρ k = .exc z ρ := nr rfl
@[simp] theorem st_stuck {k : PV → Out} : (R.stuck : R PV).st ρ k = .stuck := nr rfl
@[simp] theorem sE_eq {k : PV → Rho → Out} : sE f k ρ = (f ρ).st ρ fun p => k p ρ := nr rfl
@[simp] theorem sSet_eq : sSet i f ρ = (f ρ).st ρ fun p => .next (ρ.set i (.val p)) := nr rfl
@[simp] theorem sRet_eq : sRet f ρ = (f ρ).st ρ fun p => .ret p := nr rfl
@[simp] theorem sDrop_eq : sDrop f ρ = (f ρ).st ρ fun _ => .next ρ := nr rfl
@[simp] theorem sRaise_eq {z : Str} : sRaise z ρ = .exc z ρ := nr rfl
@[simp] theorem sPass_eq : sPass ρ = .next ρ := nr rfl
@[simp] theorem sTo_eq {w : PV → Rho → Option Rho} : sTo w f ρ = (f ρ).st ρ fun p => match w p ρ with | some ρ' => .next ρ' | none => .stuck := nr rfl
def R.stB (r : R Bool) (ρ : Rho) (k : Bool → Out) : Out := match r with
  | .ok p => k p
  | .exc c => .exc c ρ
  | .stuck => .stuck
@[simp] theorem stB_ok {k : Bool → Out} {b : Bool} : (R.ok b).stB ρ k = k b := nr rfl
@[simp] theorem stB_exc {k : Bool → Out} {z : Str} : (R.exc z).stB ρ k = .exc z ρ := nr rfl
@[simp] theorem stB_stuck {k : Bool → Out} : (R.stuck : R Bool).stB ρ k = .stuck := nr rfl
@[simp] theorem sIf_eq {u : Rho → R Bool} {v w : Rho → Out} : sIf u v w ρ = (u ρ).stB ρ fun b => if b = true then v ρ else w ρ := by
  unfold sIf R.stB
  cases u ρ with
  | ok b => cases b <;> simp
  | exc c => rfl
  | stuck => rfl
def Out.res (o : Out) : R PV := match o with
  | .ret p => .ok p
  | .next _ => .ok .non
  | .exc c _ => .exc c
  | _ => .stuck
@[simp] theorem res_ret : (Out.ret p).res = .ok p := nr rfl
@[simp] theorem res_next : (Out.next ρ).res = .ok .non := nr rfl
@[simp] theorem res_exc {z : Str} : (Out.exc z ρ).res = .exc z := nr rfl
theorem runF_eq {n : Nat} {u : Rho → Out} : runF n u ps = (u (ps.map Slot.val ++ List.replicate (n - ps.length) Slot.un)).res := rfl
@[simp] theorem gN_eq : gN i p ρ = some (ρ.set i (.val p)) := nr rfl
@[simp] theorem gT_eql {w : List PV → Rho → Option Rho} : gT w (.lst ps) ρ = w ps ρ := nr rfl
@[simp] theorem gT_eq {w : List PV → Rho → Option Rho} : gT w (.tup ps) ρ = w ps ρ := nr rfl
@[simp] theorem gsNil_eq : gsNil [] ρ = some ρ := nr rfl
@[simp] theorem gsCons_eq {u : PV → Rho → Option Rho} {w : List PV → Rho → Option Rho} : gsCons u w (p :: ps) ρ = (u p ρ).bind (w ps) := nr rfl
@[simp] theorem sAug0 {w : PV → PV → R PV} : sAug i w f ρ = (match ρ[i]? with
  | some (.val x) => ((f ρ).bind fun y => w x y).st ρ fun z => .next (ρ.set i (.val z))
  | _ => .stuck) := nr rfl
@[simp] theorem lenP_l : lenP [.lst ps] = .ok (.int ps.length) := nr rfl
@[simp] theorem lenP_t : lenP [.tup ps] = .ok (.int ps.length) := nr rfl
@[simp] theorem lenP_f : lenP [.frz ps] = .ok (.int ps.length) := nr rfl
theorem size_ok {n : Nat} (h : n ≤ 1000000) : n ≤ sizeLine := by rw [sizeLine_eq]; omega
theorem lstP_ok (h : ps.length ≤ 1000000) : lstP ps = .ok (.lst ps) := by unfold lstP; rw [if_pos (size_ok h)]
theorem tupP_ok (h : ps.length ≤ 1000000) : tupP ps = .ok (.tup ps) := by unfold tupP; rw [if_pos (size_ok h)]
@[simp] theorem lstP0 : lstP [] = .ok (.lst []) := lstP_ok (by simp)
@[simp] theorem tupP0 : tupP [] = .ok (.tup []) := tupP_ok (by simp)
@[simp] theorem tupP1 : tupP [p] = .ok (.tup [p]) := tupP_ok (by simp)
@[simp] theorem tupP2 : tupP [p, q] = .ok (.tup [p, q]) := tupP_ok (by simp)
@[simp] theorem tupP3 : tupP [p, q, x] = .ok (.tup [p, q, x]) := tupP_ok (by simp)
@[simp] theorem lstP1 : lstP [p] = .ok (.lst [p]) := lstP_ok (by simp)
@[simp] theorem lstP2 : lstP [p, q] = .ok (.lst [p, q]) := lstP_ok (by simp)
@[simp] theorem lstP3 : lstP [p, q, x] = .ok (.lst [p, q, x]) := lstP_ok (by simp)
@[simp] theorem lstP4 : lstP [p, q, x, y] = .ok (.lst [p, q, x, y]) := lstP_ok (by simp)
/-- places -/
theorem atI_at {α : Type} {l : List α} (h0 : 0 ≤ a) : atI l a = l[a.toNat]? := by
  unfold atI ixN
  rw [if_pos h0]
  by_cases h : a < l.length
  · rw [if_pos h]; rfl
  · rw [if_neg h, List.getElem?_eq_none (by omega)]; rfl
theorem ixP_lst (h0 : 0 ≤ a) (h : ps[a.toNat]? = some p) : ixP (.lst ps) (.int a) = .ok p := by unfold ixP; dsimp only; rw [atI_at h0, h]
theorem ixP_tup (h0 : 0 ≤ a) (h : ps[a.toNat]? = some p) : ixP (.tup ps) (.int a) = .ok p := by unfold ixP; dsimp only; rw [atI_at h0, h]
theorem ixP_frz (h0 : 0 ≤ a) (h : ps[a.toNat]? = some p) : ixP (.frz ps) (.int a) = .ok p := by unfold ixP; dsimp only; rw [atI_at h0, h]
@[simp] theorem ixP_t0 : ixP (.tup (p :: ps)) (.int 0) = .ok p := ixP_tup (by omega) rfl
@[simp] theorem ixP_t1 : ixP (.tup (p :: q :: ps)) (.int 1) = .ok q := ixP_tup (by omega) rfl
@[simp] theorem ixP_t2 : ixP (.tup (p :: q :: x :: ps)) (.int 2) = .ok x := ixP_tup (by omega) rfl
@[simp] theorem ixP_l0 : ixP (.lst (p :: ps)) (.int 0) = .ok p := ixP_lst (by omega) rfl
@[simp] theorem ixP_l1 : ixP (.lst (p :: q :: ps)) (.int 1) = .ok q := ixP_lst (by omega) rfl
@[simp] theorem ixP_l2 : ixP (.lst (p :: q :: x :: ps)) (.int 2) = .ok x := ixP_lst (by omega) rfl
end
/-- one turn -/
def turnL (tgt : PV → Rho → Option Rho) (body : Rho → Out) (p : PV) (ρ : Rho) : Out := match tgt p ρ with
  | none => .stuck
  | some ρ1 => body ρ1
theorem forL_inv {tgt : PV → Rho → Option Rho} {body : Rho → Out} (I : Nat → Rho → Prop) : ∀ (items : List PV) (k : Nat) (ρ : Rho), I k ρ →
    (∀ j p ρ, items[j]? = some p → I (k + j) ρ → ∃ ρ', (turnL tgt body p ρ = .next ρ' ∨ turnL tgt body p ρ = .cont ρ') ∧ I (k + j + 1) ρ') → ∃ ρ', forL tgt body items ρ = .next ρ' ∧ I (k + items.length) ρ' := by
  intro items
  induction items with
  | nil => intro k ρ h _; exact ⟨ρ, rfl, h⟩
  | cons p ps ih =>
    intro k ρ h hs
    obtain ⟨ρ1, h1, h2⟩ := hs 0 p ρ rfl h
    obtain ⟨ρ2, h3, h4⟩ := ih (k + 1) ρ1 h2 fun j q ρ' hj hI => by
      have := hs (j + 1) q ρ' (by simpa using hj) (by rw [show k + (j + 1) = k + 1 + j by omega]; exact hI)
      rw [show k + 1 + j + 1 = k + (j + 1) + 1 by omega]
      exact this
    refine ⟨ρ2, ?_, by rw [List.length_cons, show k + (ps.length + 1) = k + 1 + ps.length by omega]; exact h4⟩
    unfold turnL at h1
    unfold forL
    revert h1
    cases tgt p ρ with
    | none => exact fun h1 => by rcases h1 with h1 | h1 <;> cases h1
    | some ρ1' =>
      dsimp only
      intro h1
      rcases h1 with h1 | h1 <;> (rw [h1]; exact h3)
/-- over a range -/
theorem forL_rng {tgt : PV → Rho → Option Rho} {body : Rho → Out} (I : Nat → Rho → Prop) (lo : Int) (n : Nat) (ρ : Rho) (h0 : I 0 ρ)
    (hs : ∀ (j : Nat) ρ, j < n → I j ρ → ∃ ρ', (turnL tgt body (.int (lo + j)) ρ = .next ρ' ∨ turnL tgt body (.int (lo + j)) ρ = .cont ρ') ∧ I (j + 1) ρ') : ∃ ρ', forL tgt body (rngL lo n) ρ = .next ρ' ∧ I n ρ' := by
  obtain ⟨ρ', h1, h2⟩ := forL_inv I (rngL lo n) 0 ρ h0 fun j p ρ hj hI => by
    unfold rngL at hj
    rw [List.getElem?_map] at hj
    cases hn : (List.range n)[j]? with
    | none => rw [hn] at hj; cases hj
    | some m =>
      rw [hn] at hj
      obtain ⟨g1, g2⟩ := List.getElem?_eq_some_iff.mp hn
      rw [List.getElem_range] at g2
      subst g2
      cases hj
      rw [List.length_range] at g1
      rw [Nat.zero_add] at hI ⊢
      exact hs j ρ g1 hI
  rw [rngL_len, Nat.zero_add] at h2
  exact ⟨ρ', h1, h2⟩
def R.stL (r : R (List PV)) (ρ : Rho) (k : List PV → Out) : Out := match r with
  | .ok p => k p
  | .exc c => .exc c ρ
  | .stuck => .stuck
@[simp] theorem stL_ok {k : List PV → Out} {l : List PV} {ρ : Rho} : (R.ok l).stL ρ k = k l := nr rfl
@[simp] theorem sFor_eq {it : Rho → R (List PV)} {tgt : PV → Rho → Option Rho} {body : Rho → Out} {ρ : Rho} : sFor it tgt body ρ = (it ρ).stL ρ fun items => forL tgt body items ρ := nr rfl
@[simp] theorem iR_eq {g : List PV → R (List PV)} {f : Rho → R (List PV)} {ρ : Rho} : iR g f ρ = (f ρ).bind g := nr rfl
@[simp] theorem iS_eq {f : Rho → R PV} {ρ : Rho} : iS f ρ = (f ρ).bind asS := nr rfl
@[simp] theorem iRv_eq {f : Rho → R PV} {ρ : Rho} : iRv f ρ = (f ρ).bind fun p => (asS p).bind fun l => .ok l.reverse := nr rfl
@[simp] theorem asS_l {l : List PV} : asS (.lst l) = .ok l := nr rfl
@[simp] theorem asS_t {l : List PV} : asS (.tup l) = .ok l := nr rfl
@[simp] theorem asS_f {l : List PV} : asS (.frz l) = .ok l := nr rfl
theorem inR_of {a : Int} (h1 : -1000000000000 ≤ a) (h2 : a ≤ 1000000000000) : inR a = true := inR_iff.mpr ⟨by omega, by omega⟩
theorem rng1_sm {a : Int} (h1 : -1000000000000 ≤ a) (h2 : a ≤ 1000000000000) : rng1 [.int a] = .ok (rngL 0 a.toNat) := by
  unfold rng1; dsimp only; rw [if_pos (inR_of h1 h2)]
theorem rng2_sm {a b : Int} (h1 : -1000000000000 ≤ a) (h2 : a ≤ 1000000000000) (h3 : -1000000000000 ≤ b) (h4 : b ≤ 1000000000000) : rng2 [.int a, .int b] = .ok (rngL a (b - a).toNat) := nr rfl
theorem rng3_sm {a b : Int} (h1 : -1000000000000 ≤ a) (h2 : a ≤ 1000000000000) (h3 : -1000000000000 ≤ b) (h4 : b ≤ 1000000000000) : rng3 [.int a, .int b, .int (-1)] = .ok (rngDn a (a - b).toNat) := by
  unfold rng3; dsimp only; rw [inR_of h1 h2, inR_of h3 h4, Bool.and_self, decide_eq_true rfl, Bool.and_self, if_pos rfl]
theorem lcGo_map {tgt : PV → Rho → Option Rho} {elt : Rho → R PV} {ρ : Rho} (φ : PV → PV) : ∀ (items : List PV), (∀ p ∈ items, ∃ ρ', tgt p ρ = some ρ' ∧ elt ρ' = .ok (φ p)) → lcGo tgt cYes elt ρ items = .ok (items.map φ)
  | [], _ => rfl
  | p :: ps, h => by
    obtain ⟨ρ', h1, h2⟩ := h p List.mem_cons_self
    have ih := lcGo_map φ ps fun q hq => h q (List.mem_cons_of_mem _ hq)
    unfold lcGo
    rw [h1]
    dsimp only [cYes]
    rw [h2]
    dsimp only
    rw [ih]
    rfl
theorem eLc_ok {vs : List Nat} {it : Rho → R (List PV)} {tgt : PV → Rho → Option Rho} {test : Rho → R Bool} {elt : Rho → R PV} {ρ : Rho} {items qs : List PV} (h1 : vs.all (notOwn ρ) = true) (h2 : it ρ = .ok items) (h3 : items.length ≤ 1000000) (h4 : lcGo tgt test elt (wipeR ρ vs) items = .ok qs) : eLc vs it tgt test elt ρ = .ok (.lst qs) := by
  unfold eLc
  rw [if_pos h1, h2, bind1, if_pos (size_ok h3), h4]
end PL
namespace PL
open PySem PySem.Spec L2
open PyProof.Rows hiding St
section
variable {a b : Int} {p : PV} {ps : List PV}
theorem fdivP_sm (h : 0 < b) (h2 : b ≤ 1000000000000000000000000000000000000000000000000000000000000) : fdivP (.int a) (.int b) = .ok (.int (a / b)) := fdivP_ii (by omega) (by omega) |>.trans (by rw [Int.fdiv_eq_ediv_of_nonneg a (by omega)])
theorem mulP_sm (h : -1000000000000000000000000000000000000000000000000000000000000 ≤ a) (h2 : a ≤ 1000000000000000000000000000000000000000000000000000000000000) (h3 : -1000000000000000000000000000000000000000000000000000000000000 ≤ b) (h4 : b ≤ 1000000000000000000000000000000000000000000000000000000000000) : mulP (.int a) (.int b) = .ok (.int (a * b)) :=
  mulP_ii (okMul_of (m := 250) (n := 250) (by omega) (by omega) (by omega) (by omega) (by omega))
theorem powP_sm (h0 : 0 ≤ b) (h1 : b ≤ 1000000) (h2 : -1000000 ≤ a) (h3 : a ≤ 1000000) : powP (.int a) (.int b) = .ok (.int (a ^ b.toNat)) := powP_ii h0 h1 (by omega)
/-- the item at a place, 0 beyond -/
def nth (l : List Int) (a : Int) : Int := l.getD a.toNat 0
theorem nth_mem {l : List Int} (h0 : 0 ≤ a) (h : a < l.length) : nth l a ∈ l := by
  unfold nth
  rw [List.getD_eq_getElem?_getD, List.getElem?_eq_getElem (by omega)]
  exact List.getElem_mem _
theorem getD_map (ns : List Int) (k : Nat) (h : k < ns.length) : (ns.map PV.int)[k]? = some (.int (ns.getD k 0)) := by
  rw [List.getElem?_map, List.getElem?_eq_getElem h, List.getD_eq_getElem?_getD, List.getElem?_eq_getElem h]
  rfl
/-- an item of a written list of ints -/
theorem ixP_ints {ns : List Int} (h0 : 0 ≤ a) (h : a < ns.length) : ixP (.lst (ns.map PV.int)) (.int a) = .ok (.int (nth ns a)) := ixP_lst h0 (getD_map ns _ (by omega))
theorem ixP_intsF {ns : List Int} (h0 : 0 ≤ a) (h : a < ns.length) : ixP (.frz (ns.map PV.int)) (.int a) = .ok (.int (nth ns a)) := ixP_frz h0 (getD_map ns _ (by omega))
end
end PL
namespace PL
open PySem PySem.Spec L2
open PyProof.Rows hiding St
theorem ixP_ex {a : Int} {ps : List PV} (h0 : 0 ≤ a) (h : a < ps.length) : ∃ p, p ∈ ps ∧ ixP (.lst ps) (.int a) = .ok p :=
  ⟨_, List.getElem_mem (by omega : a.toNat < ps.length), ixP_lst h0 (List.getElem?_eq_getElem (by omega))⟩
end PL
namespace PL
open PySem PySem.Spec L2
open PyProof.Rows hiding St
theorem set_self {ρ : Rho} {i : Nat} {s : Slot} (h : ρ[i]? = some s) : ρ.set i s = ρ := by
  refine List.ext_getElem? fun j => ?_
  by_cases e : i = j
  · subst e; rw [List.getElem?_set_self (List.getElem?_eq_some_iff.mp h).1, h]
  · rw [List.getElem?_set_ne e]
theorem eVo_of {ρ : Rho} {i : Nat} {p : PV} (h : ρ[i]? = some (.val p)) : eVo i ρ = .ok p := by unfold eVo; rw [h]
theorem mul_bound {a b : Int} {m n : Nat} (h : a.natAbs < 2 ^ m) (g : b.natAbs < 2 ^ n) : (a * b).natAbs < 2 ^ (m + n) := by
  rw [Int.natAbs_mul, Nat.pow_add]
  exact Nat.mul_lt_mul'' h g
end PL
set_option Elab.async false
set_option linter.all false
set_option maxRecDepth 100000
set_option autoImplicit false
namespace PL
open PySem PySem.Spec L2
open PyProof.Rows hiding St
def repL : PV → PV → R PV
  | .lst a, .int k => if (decide (-1000000 ≤ k) && (decide (k ≤ 1000000) && decide (a.length * k.toNat ≤ sizeLine))) = true then .ok (.lst (List.replicate k.toNat a).flatten) else .stuck
  | _, _ => .stuck
theorem repL_exc (p q : PV) (c : Str) : repL p q ≠ .exc c := by
  unfold repL; split <;> (try split) <;> exact fun z => nomatch z
theorem s_repL (K : PySem.W.Frag) : OpS K rRep .t .t .f repL := by
  intro H0 O0 σ ρ H H2 x y p q Q S s rx ry G
  unfold repL at G
  split at G
  · rename_i a k
    split at G
    · rename_i hz
      rw [Bool.and_eq_true, Bool.and_eq_true, decide_eq_true_eq, decide_eq_true_eq, decide_eq_true_eq] at hz
      obtain ⟨c, vs, rfl, h1, r1⟩ := rt_lst rx
      rw [rt_int ry]
      have rr : ∀ n : Nat, Reps K H2 (OO O0 σ ρ) (List.replicate n vs).flatten (List.replicate n a).flatten := fun n => by
        induction n with
        | zero => exact .nil
        | succ n ih => rw [List.replicate_succ, List.replicate_succ, List.flatten_cons, List.flatten_cons]; exact r1.append ih
      exact ⟨c, _, vs, rfl, rfl, h1, by omega, by omega, by rw [r1.length]; exact hz.2.2, fun l hl => G _ _ (same_new hl) (new_lst (H0 := H0) s (rr _) hl)⟩
    · exact G.elim
  · exact G.elim
section
variable {X : Cx} {W : WX} {a b : Expr} {pos : Pos} {f g : Rho → R PV}
theorem e_repL (ha : EJ X W .t a f) (hb : EJ X W .t b g) : EJ X W .f (.BinOp a .Mult b pos) (e2 repL f g) := e_op op_rep repL_exc (s_repL _) ha hb
end
theorem repL_ok {a : List PV} {k : Int} (h0 : 0 ≤ k) (h1 : k ≤ 1000) (h : a.length ≤ 1000) : repL (.lst a) (.int k) = .ok (.lst (List.replicate k.toNat a).flatten) := by
  have hz : a.length * k.toNat ≤ 1000 * 1000 := Nat.mul_le_mul h (by omega)
  have hs : 1000 * 1000 ≤ sizeLine := by decide
  show (if _ then _ else _) = _
  rw [if_pos (by rw [Bool.and_eq_true, Bool.and_eq_true, decide_eq_true_eq, decide_eq_true_eq, decide_eq_true_eq]; exact ⟨by omega, by omega, by omega⟩)]
end PL
set_option Elab.async false
set_option linter.all false
set_option maxRecDepth 100000
set_option autoImplicit false
namespace PL
open PySem PySem.Spec L2
open PyProof.Rows hiding St
def asIs : List PV → Option (List Int)
  | [] => some []
  | .int b :: r => (asIs r).map (b :: ·)
  | _ => none
theorem asIs_map : ∀ {l : List PV} {bs : List Int}, asIs l = some bs → l = bs.map PV.int
  | [], _, h => by cases h; rfl
  | .int b :: r, bs, h => by
    unfold asIs at h
    obtain ⟨cs, h1, rfl⟩ := Option.map_eq_some_iff.mp h
    rw [asIs_map h1]; rfl
  | .non :: _, _, h | .bl _ :: _, _, h | .str _ :: _, _, h | .tup _ :: _, _, h | .lst _ :: _, _, h | .frz _ :: _, _, h | .dct :: _, _, h => by simp [asIs] at h
theorem asIs_of : ∀ bs : List Int, asIs (bs.map PV.int) = some bs
  | [] => rfl
  | b :: bs => by simp [asIs, asIs_of bs]
def leastI : List Int → Int
  | [] => 0
  | [n] => n
  | n :: m :: ns => min n (leastI (m :: ns))
theorem leastI_mem : ∀ {ns : List Int}, ns ≠ [] → leastI ns ∈ ns
  | [], h => absurd rfl h
  | [n], _ => List.mem_cons_self
  | n :: m :: ns, _ => by
    have ih := leastI_mem (ns := m :: ns) (fun z => nomatch z)
    show min n (leastI (m :: ns)) ∈ _
    rcases Int.le_total n (leastI (m :: ns)) with h | h
    · rw [Int.min_eq_left h]; exact List.mem_cons_self
    · rw [Int.min_eq_right h]; exact List.mem_cons_of_mem _ ih
theorem leastI_le : ∀ {ns : List Int}, ∀ y ∈ ns, leastI ns ≤ y
  | [], _, h => nomatch h
  | [n], y, h => by rw [List.mem_singleton.mp h]; exact Int.le_refl _
  | n :: m :: ns, y, h => by
    show min n (leastI (m :: ns)) ≤ y
    rcases List.mem_cons.mp h with rfl | h
    · exact Int.min_le_left ..
    · exact Int.le_trans (Int.min_le_right ..) (leastI_le y h)
theorem leastI_uniq {ns : List Int} {m : Int} (hm : m ∈ ns) (h : ∀ y ∈ ns, m ≤ y) : m = leastI ns :=
  Int.le_antisymm (h _ (leastI_mem fun z => by rw [z] at hm; cases hm)) (leastI_le m hm)
def minPL : List PV → R PV
  | [.lst l] => match asIs l with
    | some (n :: ns) => .ok (.int (leastI (n :: ns)))
    | _ => .stuck
  | _ => .stuck
theorem minPL_exc (ps : List PV) (c : Str) : minPL ps ≠ .exc c := by unfold minPL; split <;> (try split) <;> exact fun z => nomatch z
theorem minPL_ok {ns : List Int} (h : ns ≠ []) : minPL [.lst (ns.map PV.int)] = .ok (.int (leastI ns)) := by
  cases ns with
  | nil => exact absurd rfl h
  | cons n r => unfold minPL; dsimp only; rw [asIs_of]
theorem s_minL (K : PySem.W.Frag) : CallS K (rMin K) .t .s minPL := by
  intro H0 O0 σ ρ H H2 xs ps Q S s r G
  unfold minPL at G
  split at G
  · split at G
    · rename_i n ns hns
      obtain ⟨v, rfl, r1⟩ := pr1 r
      rw [asIs_map hns] at r1
      obtain ⟨a, vs, rfl, h1, r2⟩ := rt_lst r1
      rw [r2.ints] at h1
      exact ⟨a, n :: ns, rfl, .inl (.inl h1), by simp, fun m hm hl => by rw [leastI_uniq hm hl]; exact G _ _ (Same.refl _) (.int _)⟩
    · exact G.elim
  · exact G.elim
section
variable {X : Cx} {W : WX} {e : Expr} {pos p : Pos} {fA : Rho → R (List PV)}
theorem e_min1 (hc : X.calm = true) (mg : X.mg "min" = none) (hg : Gl X "min") (ha : AJ X W .t [e] fA) (he : starEach [e] X.env = (false, eval e X.env) :: starEach [] X.env := by rfl) : EJ X W .s (.Call (.Name "min" p) [e] [] pos) (eD minPL fA) := e_callB (cr_min hc) minPL_exc (s_minL _) hg mg (by decide +kernel) ha (he := he)
end
def sMut0 (i : Nat) (g : List PV → R (List PV)) : Rho → Out := fun ρ => match ρ[i]? with
  | some (.own ps) => (match g ps with
    | .ok qs => .next (ρ.set i (.own qs))
    | _ => .stuck)
  | _ => .stuck
def clearP : List PV → R (List PV) := fun _ => .ok []
def getN (ps : List PV) : PV → Option PV
  | .int k => if 0 ≤ k ∧ k < 1000000 then ps[k.toNat]? else none
  | _ => none
def augN (ps : List PV) : PV → PV → PV → R (List PV)
  | .int k, .int a, .int b => match ixN ps.length k with
    | some j => .ok (ps.set j (.int (a + b)))
    | none => .stuck
  | _, _, _ => .stuck
theorem augN_ok {ps qs : List PV} {k : Int} {x y : PV} (h : augN ps (.int k) x y = .ok qs) : ∃ (a b : Int) (j : Nat), x = .int a ∧ y = .int b ∧ ixN ps.length k = some j ∧ qs = ps.set j (.int (a + b)) := by
  cases x with
  | int a => cases y with
    | int b =>
      unfold augN at h; dsimp only at h
      cases e : ixN ps.length k with
      | none => rw [e] at h; cases h
      | some j => rw [e] at h; cases h; exact ⟨a, b, j, rfl, rfl, rfl, rfl⟩
    | _ => cases h
  | _ => cases h
def sAugI (i : Nat) (fi f : Rho → R PV) : Rho → Out := fun ρ => match ρ[i]? with
  | some (.own ps) => sE fi (fun q ρ => match getN ps q with
    | some x => sE f (fun y ρ => match augN ps q x y with
      | .ok qs => .next (ρ.set i (.own qs))
      | _ => .stuck) ρ
    | none => .stuck) ρ
  | _ => .stuck
def rGetN (K : PySem.W.Frag) : V → V → Hp → VK → Prop := fun o i H Q => ∃ p xs k v, o = .ref p ∧ i = .int k ∧ SqL K H p xs ∧ 0 ≤ k ∧ k < 1000000 ∧ xs[k.toNat]? = some v ∧ Q v H
theorem get_listN {X : Cx} : PGet X (rGetN X.K) := by
  rintro pins u σ H o i ov iv Q inv ro ri ⟨p, xs, k, v, rfl, rfl, hq, k0, k1, hv, q⟩
  cases ro
  obtain ⟨t, rfl⟩ := ri
  obtain ⟨its, r, pl, hz⟩ := inv.list hq
  obtain ⟨w, ew, rw'⟩ := r.get hv
  exact wpAny_getItem_list pl.isList k0 (by omega) (by simpa using ew) ⟨v, H, inv, rw', q⟩
section
variable {X : Cx} {W : WX} {nw : Bool} {o ix e : Expr} {apos pos p2 : Pos} {i : Nat} {f fi : Rho → R PV}
theorem s_augI (ho : PE X o (tVar i)) (hi : EJ X W .s ix fi) (he : EJ X W .s e f)
    (ha : ∀ ov iv new, augStore ix ov iv new = (do holding [new, ov, iv] (setItem ov iv new); release [new, ov, iv] []; pure .next) := by intros; rfl) : SJ X W nw (.AugAssign (.Subscript o ix p2) .Add e pos) (sAugI i fi f) := by
  refine ps_imp (ps_augS ho hi get_listN he ip_add set_list ha) fun D σ H ⟨H0, O0, ρ, S, G⟩ => ?_
  unfold sAugI at G
  split at G
  · rename_i ps hp
    obtain ⟨a0, vs0, e1, _⟩ := S.own i ps hp
    refine ⟨.ref a0, e1, H0, O0, ρ, S, got_e S G fun q v H1 s1 r1 G => ?_⟩
    have S1 := S.step s1
    obtain ⟨a, vs, e1', e2, e3, e4, e5⟩ := S1.own i ps hp
    rw [e1] at e1'
    cases e1'
    split at G
    · rename_i x hx
      unfold getN at hx
      split at hx
      · split at hx
        · rename_i k hk
          cases (show Rep X.K H1 (OO O0 σ ρ) v (.int _) from r1)
          obtain ⟨y, hy, ry⟩ := e5.get hx
          refine ⟨a0, vs, _, y, rfl, rfl, .inl (.inl e2), hk.1, hk.2, hy, H0, O0, ρ, S1, got_e S1 (GotS.later (Kept.same s1) G) fun z w H2 s2 r2 G => ?_⟩
          split at G
          · rename_i qs hq
            obtain ⟨m, n, j, rfl, rfl, hj, rfl⟩ := augN_ok hq
            cases ry
            cases (show Rep X.K H2 (OO O0 σ ρ) w (.int n) from r2)
            exact ⟨_, _, rfl, rfl, a0, vs, _, j, rfl, rfl, s2 _ _ e2, by rw [e5.length]; exact hj, G _ _ ((S1.step s2).write hp e1 ((e5.same s2).set (.int _) j)) ((Kept.same s2).trans (kept_write hp e1))⟩
          · exact G.elim
        · cases hx
      · cases hx
    · exact G.elim
  · exact G.elim
end
end PL
set_option Elab.async false
set_option linter.all false
set_option maxRecDepth 100000
set_option autoImplicit false
namespace PL
open PySem PySem.Spec L2
open PyProof.Rows hiding St
mutual
def noL : PV → Bool
  | .lst _ => false
  | .tup l => noLs l
  | _ => true
def noLs : List PV → Bool
  | [] => true
  | p :: l => noL p && noLs l
end
section
variable {K : PySem.W.Frag} {H : Hp} {O O' : Addr → Prop}
mutual
theorem Rep.lent (hO : ∀ b, O' b → O b ∨ ∃ xs, H b = some (.lst xs)) : ∀ {v : V} {p : PV}, noL p = true → Rep K H O v p → Rep K H O' v p
  | _, _, _, .non => .non
  | _, _, _, .bl b => .bl b
  | _, _, _, .int i => .int i
  | _, _, _, .str x => .str x
  | _, _, n, .lst _ _ _ => by rw [noL] at n; cases n
  | _, _, n, .tup (.inl ⟨h, m⟩) r => .tup (.inl ⟨h, fun z => by
      rcases hO _ z with z | ⟨xs, z⟩
      · exact m z
      · rw [h] at z; cases z⟩) (Reps.lent hO (by rw [noL] at n; exact n) r)
  | _, _, n, .tup (.inr h) r => .tup (.inr h) (Reps.lent hO (by rw [noL] at n; exact n) r)
  | _, _, _, .frz (.inl ⟨⟨o, h⟩, m⟩) => .frz (.inl ⟨⟨o, h⟩, fun z => by
      rcases hO _ z with z | ⟨xs, z⟩
      · exact m z
      · rw [h] at z; cases z⟩)
  | _, _, _, .frz (.inr h) => .frz (.inr h)
  | _, _, _, .dct h m => .dct h fun z => by
      rcases hO _ z with z | ⟨xs, z⟩
      · exact m z
      · rw [h] at z; cases z
theorem Reps.lent (hO : ∀ b, O' b → O b ∨ ∃ xs, H b = some (.lst xs)) : ∀ {v : List V} {p : List PV}, noLs p = true → Reps K H O v p → Reps K H O' v p
  | _, _, _, .nil => .nil
  | _, _, n, .cons h r => by
    rw [noLs, Bool.and_eq_true] at n
    exact .cons (Rep.lent hO n.1 h) (Reps.lent hO n.2 r)
end
end
def lentOk : Bool → PV → Bool
  | false, p => noL p
  | true, .lst l => noLs l
  | true, _ => false
def lendF (nw : Bool) (F : List PV → R PV) : List PV → R PV := fun ps => match F ps with
  | .ok p => if lentOk nw p = true then .ok p else .stuck
  | .exc c => .exc c
  | .stuck => .stuck
section
variable {X : Cx} {W : WX} {e : Expr} {es : List Expr} {pos p : Pos} {fA : Rho → R (List PV)}
theorem e_lend {x : Str} {k j n : Nat} {nw : Bool} {F : List PV → R PV} {pn : List Str} (h : Okd X.prog X.w X.K X.mg X.base x pn j n nw F) (hr : Room k X.A) (hjk : j ≤ k) (tk : L2N.Takes X W) (hg : Gl X x) (ha : AJ X W .w (e :: es) fA) (hal : ALen fA n) (hlen : n = es.length + 1 := by rfl) (hdb : (x == ("__debug__" : Str)) = false := by decide)
    (he : starEach (e :: es) X.env = (false, eval e X.env) :: starEach es X.env := by rfl) (hpl : (backTo pos (starEach es X.env)).any (·.1) = false := by rfl) : EJ X W (mdR nw) (.Call (.Name x p) (e :: es) [] pos) (eD (lendF nw F) fA) := by
  obtain ⟨f, fd, h1, h2, h3, h4⟩ := h
  refine pe_imp (pe_callSD (E := fun σ cls d H => W cls d σ H) h4 (hr.mono hjk) hg h1 h2 h3 .nil (fun σ => L2N.passAt tk σ) ha hdb he hpl) fun σ H Q ⟨H0, O0, ρ, S, G⟩ => ⟨H0, O0, ρ, S, ?_⟩
  revert G
  unfold eD
  cases hA : fA ρ with
  | stuck => exact False.elim
  | exc c => exact id
  | ok ps =>
    intro G vs H1 s1 r1
    have rr := reps_ofW r1
    refine ⟨ps, O0, fun a z => (S.step s1).all0 a z, by rw [List.append_nil]; exact rr, ?_, ?_⟩
    · rw [List.append_nil, rr.length, hal.ok ρ ps hA]
    · revert G
      rw [R.bind_ok]
      unfold lendF
      cases F ps with
      | stuck => exact id
      | exc c => exact fun G C H' s' e => G C H' (s1.trans s') e
      | ok p =>
        dsimp only
        split
        · rename_i hl
          intro G v H' s' r'
          have S' := S.step (s1.trans s')
          have hO : ∀ b, OO O0 σ ρ b → O0 b ∨ ∃ xs, H' b = some (.lst xs) := fun b z => by
            rcases z with z | ⟨i, qs, q1, q2⟩
            · exact .inl z
            · obtain ⟨a, vs, e1, e2, _⟩ := S'.own i qs q1
              rw [q2] at e1; cases e1
              exact .inr ⟨vs, e2⟩
          refine G v H' (s1.trans s') ?_
          cases nw with
          | false => exact Rep.lent hO hl r'
          | true =>
            obtain ⟨a, vs', ps', q1, q2, q3, q4, q5⟩ := r'
            subst q2
            refine ⟨a, vs', ps', q1, rfl, s1.free q3, q4, Reps.lent (fun b z => ?_) hl q5⟩
            rcases z with z | z
            · rcases hO b z with z | z
              · exact .inl (.inl z)
              · exact .inr z
            · exact .inl (.inr z)
        · exact False.elim
end
theorem lendF_ok {nw : Bool} {F : List PV → R PV} {ps : List PV} {p : PV} (h : F ps = .ok p) (hl : lentOk nw p = true) : lendF nw F ps = .ok p := by
  unfold lendF; rw [h]; exact if_pos hl
def isBP : PV → PV → R PV
  | .bl a, .bl b => .ok (.bl (decide (a = b)))
  | _, _ => .stuck
def notBP : PV → PV → R PV
  | .bl a, .bl b => .ok (.bl (!decide (a = b)))
  | _, _ => .stuck
@[simp] theorem isBP_bb (a b : Bool) : isBP (.bl a) (.bl b) = .ok (.bl (decide (a = b))) := rfl
@[simp] theorem notBP_bb (a b : Bool) : notBP (.bl a) (.bl b) = .ok (.bl (!decide (a = b))) := rfl
end PL
set_option Elab.async false
set_option linter.all false
set_option maxRecDepth 100000
set_option autoImplicit false
namespace PL
open PySem PySem.Spec L2
open PyProof.Rows hiding St
def kV : V → Nat
  | .int _ => 0 | .bl _ => 1 | .str _ => 2 | .non => 3 | _ => 4
end PL
set_option Elab.async false
set_option linter.all false
set_option maxRecDepth 100000
set_option autoImplicit false
namespace PL
open PySem PySem.Spec L2
open PyProof.Rows hiding St
end PL
set_option Elab.async false
set_option linter.all false
set_option maxRecDepth 100000
set_option autoImplicit false
namespace PL
open PySem PySem.Spec L2
open PyProof.Rows hiding St
open PySem.W (EachIs AllAlike Sortable dataLe dataLt alike)
theorem okd_stuck {P : Program} {w : World} {K : PySem.W.Frag} {mg : Str → Option Value} {base : Heap} {x : Str} {st : Stmt} {ps : List Str} {k n : Nat} {nw : Bool} (T : DefE K mg x st ps) (hn : n = ps.length) : Okd P w K mg base x ps k n nw (fun _ => .stuck) := by
  obtain ⟨f, fd, T⟩ := T
  refine ⟨f, fd, T.g, T.F.kp, T.b, ⟨fun vs H Q E h => ?_, fun A outer s H args us vs Q E _ _ _ _ h => ?_⟩⟩
  · obtain ⟨_, _, _, _, e, _⟩ := h
    exact e.trans hn
  · obtain ⟨_, _, _, _, _, z⟩ := h
    exact z.elim
end PL
set_option Elab.async false
set_option linter.all false
set_option maxRecDepth 100000
set_option autoImplicit false
namespace PL
open PySem PySem.Spec L2
open PyProof.Rows hiding St
end PL
set_option Elab.async false
set_option linter.all false
set_option maxRecDepth 100000
set_option autoImplicit false
namespace PL
open PySem PySem.Spec L2
open PyProof.Rows hiding St
def pickL (F0 F1 F2 : List PV → R PV) (f : Rho → R PV) (fA : Rho → R (List PV)) : Rho → R PV := fun ρ => (f ρ).bind fun i => match i with
  | .int 0 => eD F0 fA ρ
  | .int 1 => eD F1 fA ρ
  | .int 2 => eD F2 fA ρ
  | _ => .stuck
section
variable {X : Cx} {W : WX} {e : Expr} {es : List Expr} {pos p0 p1 p2 lp sp : Pos} {ix : Expr} {fi : Rho → R PV} {fA : Rho → R (List PV)}
theorem e_callL {x0 x1 x2 : Str} {k j0 j1 j2 n : Nat} {F0 F1 F2 : List PV → R PV} {n0 n1 n2 : List Str} (h0 : Okd X.prog X.w X.K X.mg X.base x0 n0 j0 n false F0) (h1 : Okd X.prog X.w X.K X.mg X.base x1 n1 j1 n false F1) (h2 : Okd X.prog X.w X.K X.mg X.base x2 n2 j2 n false F2) (hr : Room k X.A) (k0 : j0 ≤ k) (k1 : j1 ≤ k) (k2 : j2 ≤ k) (tk : L2N.Takes X W) (g0 : Gl X x0) (g1 : Gl X x1) (g2 : Gl X x2) (hi : EJ X W .t ix fi) (hs : PlainIx ix) (ha : AJ X W .s (e :: es) fA) (hal : ALen fA n) (hlen : n = es.length + 1 := by rfl)
    (d0 : (x0 == ("__debug__" : Str)) = false := by decide) (d1 : (x1 == ("__debug__" : Str)) = false := by decide) (d2 : (x2 == ("__debug__" : Str)) = false := by decide)
    (he : starEach (e :: es) X.env = (false, eval e X.env) :: starEach es X.env := by rfl) (hpl : (backTo pos (starEach es X.env)).any (·.1) = false := by rfl)
    (hl2 : starEach [.Name x2 p2] X.env = (false, eval (.Name x2 p2) X.env) :: starEach [] X.env := by rfl) (hl1 : starEach [.Name x1 p1, .Name x2 p2] X.env = (false, eval (.Name x1 p1) X.env) :: starEach [.Name x2 p2] X.env := by rfl) (hl0 : starEach [.Name x0 p0, .Name x1 p1, .Name x2 p2] X.env = (false, eval (.Name x0 p0) X.env) :: starEach [.Name x1 p1, .Name x2 p2] X.env := by rfl)
    (hc : eval (.Call (.Subscript (.List [.Name x0 p0, .Name x1 p1, .Name x2 p2] lp) ix sp) (e :: es) [] pos) X.env = (do callWith pos (← eval (.Subscript (.List [.Name x0 p0, .Name x1 p1, .Name x2 p2] lp) ix sp) X.env) [] (backTo pos (starEach (e :: es) X.env)) (backToKw pos (keywordEach [] X.env))) := by rfl) :
    EJ X W .s (.Call (.Subscript (.List [.Name x0 p0, .Name x1 p1, .Name x2 p2] lp) ix sp) (e :: es) [] pos) (pickL F0 F1 F2 fi fA) := by
  obtain ⟨f0, fd0, m0, q0, b0, o0⟩ := h0
  obtain ⟨f1, fd1, m1, q1, b1, o1⟩ := h1
  obtain ⟨f2, fd2, m2, q2, b2, o2⟩ := h2
  refine ⟨fun pins s σ H Q I ⟨H0, O0, ρ, S, G⟩ => ?_⟩
  refine Call_ (thn ((pe_ix ix_list (pe_lst (pa_cons (pe_glob g0 m0 (v := .ref f0) rfl d0) (pa_cons (pe_glob g1 m1 (v := .ref f1) rfl d1) (pa_cons (pe_glob g2 m2 (v := .ref f2) rfl d2) pa_nil hl2) hl1) hl0)) hi hs).run pins s σ H
    (fun v H1 => Same H H1 ∧ ∃ (F : List PV → R PV) (f : Addr) (fd : FuncData) (pn : List Str) (j : Nat), v = .ref f ∧ PySem.W.keepIn X.K (.ref f) = true ∧ L2.Binds X.K fd pn [] ∧ FnOk X.prog X.w X.K X.mg X.base (L2N.CX X.prog X.w) j f fd pn (spF X.K X.mg n false F) ∧ j ≤ k ∧ Got X.K X.mg W O0 σ ρ .s H Q (eD F fA ρ)) I ?_) fun u s1 ⟨v, H1, I1, rv, s01, F, f, fd, pn, j, ev, kp, bd, fo, jk, G1⟩ => ?_) hc
  · refine ⟨by show 3 ≤ sizeLine; decide, fun p hp => ⟨H0, O0, ρ, S.step (same_new hp), ?_⟩⟩
    revert G
    unfold pickL
    cases fi ρ with
    | stuck => exact False.elim
    | exc c => exact fun G C H' s' hm => G C H' ((same_new hp).trans s') hm
    | ok i =>
      rw [R.bind_ok]
      intro G y H2 s2 ry
      have base : ∀ (F : List PV → R PV) (f : Addr) (fd : FuncData) (pn : List Str) (j : Nat) (m : Int), i = .int m → atI [V.ref f0, V.ref f1, V.ref f2] m = some (.ref f) → PySem.W.keepIn X.K (.ref f) = true → L2.Binds X.K fd pn [] → FnOk X.prog X.w X.K X.mg X.base (L2N.CX X.prog X.w) j f fd pn (spF X.K X.mg n false F) → j ≤ k → Got X.K X.mg W O0 σ ρ .s H Q (eD F fA ρ) → rIxL X.K (.ref p) y H2 (fun v H1 => Same H H1 ∧ ∃ (F : List PV → R PV) (f : Addr) (fd : FuncData) (pn : List Str) (j : Nat), v = .ref f ∧ PySem.W.keepIn X.K (.ref f) = true ∧ L2.Binds X.K fd pn [] ∧ FnOk X.prog X.w X.K X.mg X.base (L2N.CX X.prog X.w) j f fd pn (spF X.K X.mg n false F) ∧ j ≤ k ∧ Got X.K X.mg W O0 σ ρ .s H Q (eD F fA ρ)) := fun F f fd pn j m ei at_ kp bd fo jk Gk => by
        subst ei
        exact ⟨p, _, m, _, rfl, rt_int ry, .inl (.inl (s2 _ _ upd_same)), at_, (same_new hp).trans s2, F, f, fd, pn, j, rfl, kp, bd, fo, jk, Gk⟩
      split at G
      · exact base F0 f0 fd0 n0 j0 0 rfl rfl q0 b0 o0 k0 G
      · exact base F1 f1 fd1 n1 j1 1 rfl rfl q1 b1 o1 k1 G
      · exact base F2 f2 fd2 n2 j2 2 rfl rfl q2 b2 o2 k2 G
      · exact G.elim
  · subst ev
    obtain rfl : u = Value.ref f := rv
    refine PySem.W.callWith_K (h₀ := X.base) I1.ok.mod.kin kp (thn (ha.run pos pins s1 σ H1 (fun vs H2 => Same H1 H2 ∧ ∃ ps, fA ρ = .ok ps ∧ Paired (RepM X.K O0 σ ρ .s H1 H2) vs ps) I1 ⟨H0, O0, ρ, S.step s01, ?_⟩) fun us s2 ⟨vs, H2, I2, r, s12, ps, hps, pr⟩ => ⟨I2.kIn, ?_⟩) he hpl
    · revert G1
      unfold eD
      cases hA : fA ρ with
      | stuck => exact False.elim
      | exc c => exact fun G C H' s' hm => G C H' (s01.trans s') hm
      | ok ps => exact fun _ vs H2 s2 r2 => ⟨s2, ps, rfl, r2⟩
    · have G2 : Got X.K X.mg W O0 σ ρ .s H Q (F ps) := by
        have : eD F fA ρ = F ps := by unfold eD; rw [hps]; rfl
        rw [← this]; exact G1
      have rr := reps_of pr
      refine run_fnSD (E := fun σ cls d H => W cls d σ H) fo (hr.mono jk) bd .nil (L2N.passAt tk σ) I2 r ⟨ps, OO O0 σ ρ, fun b z => ((S.step s01).step s12).there z, by rw [List.append_nil]; exact rr, by rw [List.append_nil, rr.length, hal.ok ρ ps hps], ?_⟩
      revert G2
      cases F ps with
      | stuck => exact fun G => G
      | exc c => exact fun G C H' s' hm => G C H' ((s01.trans s12).trans s') hm
      | ok q => exact fun G v H' s' r' => G v H' ((s01.trans s12).trans s') r'
end
def repT : PV → PV → R PV
  | .tup a, .int k => if (!a.isEmpty && (decide (2 ≤ k) && (decide (k ≤ 1000) && decide (a.length ≤ 1000)))) = true then .ok (.tup (List.replicate k.toNat a).flatten) else .stuck
  | _, _ => .stuck
theorem repT_exc (p q : PV) (c : Str) : repT p q ≠ .exc c := by
  unfold repT; split <;> (try split) <;> exact fun z => nomatch z
theorem s_repT (K : PySem.W.Frag) : OpS K (rRepT K) .t .t .s repT := by
  intro H0 O0 σ ρ H H2 x y p q Q S s rx ry G
  unfold repT at G
  split at G
  · rename_i a k
    split at G
    · rename_i hz
      rw [Bool.and_eq_true, Bool.and_eq_true, Bool.and_eq_true, decide_eq_true_eq, decide_eq_true_eq, decide_eq_true_eq] at hz
      rw [rt_int ry]
      have S2 := S.step s
      rcases rx with r | ⟨_, _, _, _, e, _⟩
      · cases r with
        | @tup c vs _ h r1 =>
          have rr : ∀ n : Nat, Reps K H2 (OO O0 σ ρ) (List.replicate n vs).flatten (List.replicate n a).flatten := fun n => by
            induction n with
            | zero => exact .nil
            | succ n ih => rw [List.replicate_succ, List.replicate_succ, List.flatten_cons, List.flatten_cons]; exact r1.append ih
          refine ⟨c, k, vs, rfl, rfl, ?_, fun z => ?_, hz.2.1, hz.2.2.1, by rw [r1.length]; exact hz.2.2.2, fun l hl => G _ _ (same_new hl) (new_tup (H := H2) S2 (rr _) hl)⟩
          · rcases h with ⟨h, _⟩ | h
            · exact .inl (.inl h)
            · exact .inr h
          · have l := r1.length
            rw [z, List.length_nil] at l
            have : a = [] := List.length_eq_zero_iff.mp l.symm
            rw [this] at hz
            exact absurd hz.1 (by decide)
      · cases e
    · exact G.elim
  · exact G.elim
section
variable {X : Cx} {W : WX} {a b : Expr} {pos : Pos} {f g : Rho → R PV}
theorem e_repT (ha : EJ X W .t a f) (hb : EJ X W .t b g) : EJ X W .s (.BinOp a .Mult b pos) (e2 repT f g) := e_op op_repT repT_exc (s_repT _) ha hb
end
theorem repT_ok {a : List PV} {k : Int} (h0 : 2 ≤ k) (h1 : k ≤ 1000) (h : a.length ≤ 1000) (ne : a ≠ []) : repT (.tup a) (.int k) = .ok (.tup (List.replicate k.toNat a).flatten) := by
  show (if _ then _ else _) = _
  rw [if_pos]
  rw [Bool.and_eq_true, Bool.and_eq_true, Bool.and_eq_true, decide_eq_true_eq, decide_eq_true_eq, decide_eq_true_eq]
  refine ⟨?_, h0, h1, h⟩
  cases a with
  | nil => exact absurd rfl ne
  | cons _ _ => rfl
end PL
set_option Elab.async false
set_option linter.all false
set_option maxRecDepth 100000
set_option autoImplicit false
namespace PM
open PySem PySem.Spec L2 PL
open PyProof.Rows hiding St
noncomputable def D_is_whole : Rho → Out := (bSeq (sRet (eAn (e1 (isiP "int") (eVo 0)) (e1 notP (e1 (isiP "bool") (eVo 0))))) bNil)
noncomputable def F_is_whole : List PV → R PV := runF 1 D_is_whole
noncomputable def D_is_prime : Rho → Out := (bSeq (sIf (tOr' (tNt (tB1 (eD F_is_whole (aCons (eV 0) aNil)))) (tOr' (tB1 (e2 ltP (eVo 0) (eC (.int 2)))) (tB1 (e2 gtP (eVo 0) (eC (.int 97)))))) (bSeq (sRet (eC (.bl false))) bNil) bNil) (bSeq (sRet (eD allP (aCons (eLc [1] (iR rng2 (aCons (eC (.int 2)) (aCons (eVo 0) aNil))) (gN 1) cYes (e2 neP (e2 modP (eVo 0) (eVo 1)) (eC (.int 0)))) aNil))) bNil))
noncomputable def F_is_prime : List PV → R PV := runF 2 D_is_prime
noncomputable def D_exponent : Rho → Out := (bSeq (sSet 2 (eC (.int 0))) (bSeq (sTo (gT (gsCons (gN 3) (gsCons (gN 4) gsNil))) (eD divmodP (aCons (eVo 1) (aCons (eVo 0) aNil)))) (bSeq (sWh (tB1 (e2 eqP (eVo 4) (eC (.int 0)))) (bSeq (sAug 2 (intP (fun _ _ => true) fun a b => .int (a + b)) (eC (.int 1))) (bSeq (sTo (gT (gsCons (gN 3) (gsCons (gN 4) gsNil))) (eD divmodP (aCons (eVo 3) (aCons (eVo 0) aNil)))) bNil))) (bSeq (sRet (eV 2)) bNil))))
noncomputable def F_exponent : List PV → R PV := runF 5 D_exponent
noncomputable def D_are_figures : Rho → Out := (bSeq (sIf (tNt (tB1 (e1 (isiP2 "list" "tuple") (eVo 1)))) (bSeq (sRet (eC (.bl false))) bNil) bNil) (bSeq (sRet (eD allP (aCons (eLc [2] (iS (eV 1)) (gN 2) cYes (eAn (eD F_is_whole (aCons (eV 2) aNil)) (eChain leP ltP (eC (.int 0)) (eVo 2) (eVo 0)))) aNil))) bNil))
noncomputable def F_are_figures : List PV → R PV := runF 3 D_are_figures
noncomputable def D_left_number : Rho → Out := (bSeq (sIf (tNt (tB1 (eD F_is_prime (aCons (eV 0) aNil)))) (bSeq (sRaise "NoPrime") bNil) bNil) (bSeq (sIf (tNt (tB1 (eD F_is_whole (aCons (eV 1) aNil)))) (bSeq (sRaise "NoPlace") bNil) bNil) (bSeq (sIf (tNt (tB1 (eD F_are_figures (aCons (eV 0) (aCons (eV 2) aNil))))) (bSeq (sRaise "NoFigures") bNil) bNil) (bSeq (sSet 3 (eC (.int 0))) (bSeq (sWh (tAn (tB1 (e2 ltP (eVo 3) (eD lenP (aCons (eVo 2) aNil)))) (tB1 (e2 eqP (e2 ixP (eVo 2) (eVo 3)) (eC (.int 0))))) (bSeq (sAug 3 (intP (fun _ _ => true) fun a b => .int (a + b)) (eC (.int 1))) bNil)) (bSeq (sRet (eD tupP (aCons (eV 0) (aCons (e2 addP (eVo 1) (eVo 3)) (aCons (eD tupleP (aCons (eSl slP (eVo 2) (oSome (eV 3)) oNone) aNil)) aNil))))) bNil))))))
noncomputable def F_left_number : List PV → R PV := runF 4 D_left_number
noncomputable def D_of_whole : Rho → Out := (bSeq (sSetO 4 (eD lstP aNil)) (bSeq (sFor (iR rng1 (aCons (eVo 3) aNil)) (gN 5) (bSeq (sTo (gT (gsCons (gN 2) (gsCons (gN 6) gsNil))) (eD divmodP (aCons (eVo 2) (aCons (eVo 0) aNil)))) (bSeq (sMut 4 appP (eV 6)) bNil))) (sFrz 4 (bSeq (sRet (eD F_left_number (aCons (eV 0) (aCons (eV 1) (aCons (eV 4) aNil))))) bNil))))
noncomputable def F_of_whole : List PV → R PV := runF 7 D_of_whole
noncomputable def D_is_poly : Rho → Out := (bSeq (sIf (tOr' (tNt (tB1 (e1 (isiP "list") (eVo 0)))) (tOr' (tB1 (e2 ltP (eD lenP (aCons (eVo 0) aNil)) (eC (.int 2)))) (tB1 (e2 gtP (eD lenP (aCons (eVo 0) aNil)) (eC (.int 9)))))) (bSeq (sRet (eC (.bl false))) bNil) bNil) (bSeq (sRet (eAn (eD allP (aCons (eLc [1] (iS (eV 0)) (gN 1) cYes (eD F_is_whole (aCons (eV 1) aNil))) aNil)) (e2 neP (e2 ixP (eVo 0) (e1 negP (eC (.int 1)))) (eC (.int 0))))) bNil))
noncomputable def F_is_poly : List PV → R PV := runF 2 D_is_poly
noncomputable def D_want_poly : Rho → Out := (bSeq (sIf (tNt (tB1 (eD F_is_poly (aCons (eV 0) aNil)))) (bSeq (sRaise "NoPolynomial") bNil) bNil) bNil)
noncomputable def F_want_poly : List PV → R PV := runF 1 D_want_poly
noncomputable def D_slope_of : Rho → Out := (bSeq (sDrop (eD F_want_poly (aCons (eV 0) aNil))) (bSeq (sRet (eSl slL (eLc [1, 2] (iEn (eV 0)) (gT (gsCons (gN 1) (gsCons (gN 2) gsNil))) cYes (e2 mulP (eVo 1) (eVo 2))) (oSome (eC (.int 1))) oNone)) bNil))
noncomputable def F_slope_of : List PV → R PV := runF 3 D_slope_of
noncomputable def D_shifted : Rho → Out := (bSeq (sSetO 2 (eD listP (aCons (eVo 0) aNil))) (bSeq (sFor (iR rng1 (aCons (e2 subP (eD lenP (aCons (eVo 2) aNil)) (eC (.int 1))) aNil)) (gN 3) (bSeq (sFor (iR rng3 (aCons (e2 subP (eD lenP (aCons (eVo 2) aNil)) (eC (.int 2))) (aCons (e2 subP (eVo 3) (eC (.int 1))) (aCons (e1 negP (eC (.int 1))) aNil)))) (gN 4) (bSeq (sAugI 2 (eV 4) (e2 mulP (eVo 1) (e2 ixP (eVo 2) (e2 addP (eVo 4) (eC (.int 1)))))) bNil)) bNil)) (bSeq (sRetO 2) bNil)))
noncomputable def F_shifted : List PV → R PV := runF 5 D_shifted
noncomputable def D_lifted : Rho → Out := (bSeq (sSet 2 (eD minPL (aCons (eLc [5] (iS (eV 1)) (gN 5) (tB1 (e2 neP (eVo 5) (eC (.int 0)))) (eD F_exponent (aCons (eV 0) (aCons (eV 5) aNil)))) aNil))) (bSeq (sSet 3 (eD listP (aCons (eVo 1) aNil))) (bSeq (sFor (iR rng1 (aCons (eVo 2) aNil)) (gN 4) (bSeq (sSet 3 (eLc [5] (iS (eV 3)) (gN 5) cYes (e2 fdivP (eVo 5) (eVo 0)))) bNil)) (bSeq (sRet (eD tupP (aCons (eV 2) (aCons (eV 3) aNil)))) bNil))))
noncomputable def F_lifted : List PV → R PV := runF 6 D_lifted
noncomputable def D_one_on : Rho → Out := (bSeq (sSet 3 (eC (.int 1))) (bSeq (sSetO 4 (eD lstP aNil)) (bSeq (sFor (iS (eD F_shifted (aCons (eV 1) (aCons (eV 2) aNil)))) (gN 5) (bSeq (sMut 4 appP (e2 mulP (eVo 5) (eVo 3))) (bSeq (sAug 3 mulP (eVo 0)) bNil))) (sFrz 4 (bSeq (sRet (eD F_lifted (aCons (eV 0) (aCons (eV 4) aNil)))) bNil)))))
noncomputable def F_one_on : List PV → R PV := runF 6 D_one_on
noncomputable def D_seen_from : Rho → Out := (bSeq (sTo (gT (gsCons (gN 3) (gsCons (gN 4) gsNil))) (eD F_lifted (aCons (eV 0) (aCons (eV 1) aNil)))) (bSeq (sFor (iS (eV 2)) (gN 5) (bSeq (sTo (gT (gsCons (gN 6) (gsCons (gN 4) gsNil))) (eD F_one_on (aCons (eV 0) (aCons (eV 4) (aCons (eV 5) aNil))))) (bSeq (sAug 3 (intP (fun _ _ => true) fun a b => .int (a + b)) (eVo 6)) bNil))) (bSeq (sRet (eD tupP (aCons (eV 3) (aCons (eV 4) aNil)))) bNil)))
noncomputable def F_seen_from : List PV → R PV := runF 7 D_seen_from
noncomputable def D_whole_worth : Rho → Out := (bSeq (sSet 2 (eC (.int 0))) (bSeq (sFor (iRv (eV 0)) (gN 3) (bSeq (sSet 2 (e2 addP (e2 mulP (eVo 2) (eVo 1)) (eVo 3))) bNil)) (bSeq (sRet (eV 2)) bNil)))
noncomputable def F_whole_worth : List PV → R PV := runF 4 D_whole_worth
noncomputable def D_word_of : Rho → Out := (bSeq (sIf (tB1 (e2 neP (e2 modP (eD F_whole_worth (aCons (eV 1) (aCons (eV 2) aNil))) (eVo 0)) (eC (.int 0)))) (bSeq (sRet (eC (.str "none"))) bNil) bNil) (bSeq (sIf (tB1 (e2 neP (e2 modP (eD F_whole_worth (aCons (eD F_slope_of (aCons (eV 1) aNil)) (aCons (eV 2) aNil))) (eVo 0)) (eC (.int 0)))) (bSeq (sRet (eC (.str "one"))) bNil) bNil) (bSeq (sRet (eC (.str "on"))) bNil)))
noncomputable def F_word_of : List PV → R PV := runF 3 D_word_of
noncomputable def D_is_stem : Rho → Out := (bSeq (sIf (tOr' (tNt (tB1 (e1 (isiP "tuple") (eVo 1)))) (tOr' (tB1 (e2 ltP (eD lenP (aCons (eVo 1) aNil)) (eC (.int 1)))) (tB1 (e2 gtP (eD lenP (aCons (eVo 1) aNil)) (eC (.int 12)))))) (bSeq (sRet (eC (.bl false))) bNil) bNil) (bSeq (sRet (eD allP (aCons (eLc [2] (iS (eV 1)) (gN 2) cYes (eAn (eD F_is_whole (aCons (eV 2) aNil)) (eChain leP ltP (eC (.int 0)) (eVo 2) (eVo 0)))) aNil))) bNil))
noncomputable def F_is_stem : List PV → R PV := runF 3 D_is_stem
noncomputable def D_rise_of : Rho → Out := (bSeq (sIf (tNt (tB1 (eD F_is_stem (aCons (eV 0) (aCons (eV 2) aNil))))) (bSeq (sRaise "NoRoot") bNil) bNil) (bSeq (sTo (gT (gsCons (gN 3) (gsCons (gN 4) gsNil))) (eD F_seen_from (aCons (eV 0) (aCons (eV 1) (aCons (eD tupP aNil) aNil))))) (bSeq (sFor (iS (eSl slP (eVo 2) oNone (oSome (e1 negP (eC (.int 1)))))) (gN 5) (bSeq (sIf (tB1 (e2 neP (eD F_word_of (aCons (eV 0) (aCons (eV 4) (aCons (eV 5) aNil)))) (eC (.str "on")))) (bSeq (sRaise "NoRoot") bNil) bNil) (bSeq (sTo (gT (gsCons (gN 6) (gsCons (gN 4) gsNil))) (eD F_one_on (aCons (eV 0) (aCons (eV 4) (aCons (eV 5) aNil))))) (bSeq (sAug 3 (intP (fun _ _ => true) fun a b => .int (a + b)) (eVo 6)) bNil)))) (bSeq (sIf (tB1 (e2 neP (eD F_word_of (aCons (eV 0) (aCons (eV 4) (aCons (e2 ixP (eVo 2) (e1 negP (eC (.int 1)))) aNil)))) (eC (.str "one")))) (bSeq (sRaise "NoRoot") bNil) bNil) (bSeq (sRet (e2 addP (e2 subP (eVo 3) (eD lenP (aCons (eVo 2) aNil))) (eC (.int 1)))) bNil)))))
noncomputable def F_rise_of : List PV → R PV := runF 7 D_rise_of
noncomputable def D_undone : Rho → Out := (bSeq (sFor (iR rng2 (aCons (eC (.int 1)) (aCons (eVo 0) aNil))) (gN 2) (bSeq (sIf (tB1 (e2 eqP (e2 modP (e2 mulP (eVo 2) (eVo 1)) (eVo 0)) (eC (.int 1)))) (bSeq (sRet (eV 2)) bNil) bNil) bNil)) (bSeq (sRet (eC (.int 0))) bNil))
noncomputable def F_undone : List PV → R PV := runF 3 D_undone
noncomputable def D_root_of : Rho → Out := (bSeq (sIf (tNt (tB1 (eD F_is_prime (aCons (eV 0) aNil)))) (bSeq (sRaise "NoPrime") bNil) bNil) (bSeq (sDrop (eD F_want_poly (aCons (eV 1) aNil))) (bSeq (sSet 4 (eD F_rise_of (aCons (eV 0) (aCons (eV 1) (aCons (eV 2) aNil))))) (bSeq (sIf (tOr' (tNt (tB1 (eD F_is_whole (aCons (eV 3) aNil)))) (tOr' (tB1 (e2 ltP (eVo 3) (eD lenP (aCons (eVo 2) aNil)))) (tB1 (e2 gtP (eVo 3) (eC (.int 400)))))) (bSeq (sRaise "NoPlace") bNil) bNil) (bSeq (sSet 5 (eC (.int 0))) (bSeq (sSet 6 (eC (.int 1))) (bSeq (sFor (iS (eV 2)) (gN 7) (bSeq (sAug 5 (intP (fun _ _ => true) fun a b => .int (a + b)) (e2 mulP (eVo 7) (eVo 6))) (bSeq (sAug 6 mulP (eVo 0)) bNil))) (bSeq (sSet 8 (eC (.int 1))) (bSeq (sFor (iR rng1 (aCons (eVo 4) aNil)) (gN 9) (bSeq (sAug 8 mulP (eVo 0)) bNil)) (bSeq (sSet 10 (eD F_undone (aCons (eV 0) (aCons (e2 fdivP (eD F_whole_worth (aCons (eD F_slope_of (aCons (eV 1) aNil)) (aCons (eV 5) aNil))) (eVo 8)) aNil)))) (bSeq (sFor (iR rng2 (aCons (eD lenP (aCons (eVo 2) aNil)) (aCons (eVo 3) aNil))) (gN 9) (bSeq (sAug 5 (intP (fun _ _ => true) fun a b => .int (a + b)) (e2 mulP (e2 modP (e2 mulP (e1 negP (e2 fdivP (eD F_whole_worth (aCons (eV 1) (aCons (eV 5) aNil))) (e2 mulP (eVo 8) (eVo 6)))) (eVo 10)) (eVo 0)) (eVo 6))) (bSeq (sAug 6 mulP (eVo 0)) bNil))) (bSeq (sRet (eD F_of_whole (aCons (eV 0) (aCons (eC (.int 0)) (aCons (eV 5) (aCons (eV 3) aNil)))))) bNil))))))))))))
noncomputable def F_root_of : List PV → R PV := runF 11 D_root_of
noncomputable def D_turned : Rho → Out := (bSeq (sSet 2 (eD tupP (aCons (eV 1) (aCons (eC (.int 0)) aNil)))) (bSeq (sSet 3 (eD tupP (aCons (e2 modP (eVo 0) (eVo 1)) (aCons (eC (.int 1)) aNil)))) (bSeq (sWh (tB1 (e2 gtP (e2 ixP (eVo 3) (eC (.int 0))) (eC (.int 0)))) (bSeq (sSet 4 (e2 fdivP (e2 ixP (eVo 2) (eC (.int 0))) (e2 ixP (eVo 3) (eC (.int 0))))) (bSeq (sPar 2 3 (aCons (eV 3) (aCons (eD tupP (aCons (e2 subP (e2 ixP (eVo 2) (eC (.int 0))) (e2 mulP (eVo 4) (e2 ixP (eVo 3) (eC (.int 0))))) (aCons (e2 subP (e2 ixP (eVo 2) (eC (.int 1))) (e2 mulP (eVo 4) (e2 ixP (eVo 3) (eC (.int 1))))) aNil))) aNil))) bNil))) (bSeq (sRet (e2 modP (e2 ixP (eVo 2) (eC (.int 1))) (eVo 1))) bNil))))
noncomputable def F_turned : List PV → R PV := runF 5 D_turned
end PM
set_option Elab.async false
set_option linter.all false
set_option maxRecDepth 100000
set_option autoImplicit false
namespace PM
open PySem PySem.Spec L2 PL
open PyProof.Rows hiding St
theorem f_is_whole (p : PV) : F_is_whole [p] = .ok (.bl (isW p)) := by
  show (D_is_whole [.val p]).res = _
  simp [D_is_whole, whole_eq]
def primesL : List Int := [2, 3, 5, 7, 11, 13, 17, 19, 23, 29, 31, 37, 41, 43, 47, 53, 59, 61, 67, 71, 73, 79, 83, 89, 97]
def isP (p : PV) : Bool := match p with
  | .int n => decide (n ∈ primesL)
  | _ => false
def primesN : List Nat := [2, 3, 5, 7, 11, 13, 17, 19, 23, 29, 31, 37, 41, 43, 47, 53, 59, 61, 67, 71, 73, 79, 83, 89, 97]
theorem primes_tab : ((List.range 98).all fun k => (!decide (2 ≤ k)) || (((List.range (k - 2)).all fun i => !(k % (2 + i) == 0)) == primesN.contains k)) = true := by decide +kernel
theorem primes_by (k : Nat) (hk : k < 98) (h2 : 2 ≤ k) : ((List.range (k - 2)).map fun (i : Nat) => (!(((k : Int) % ((2 : Int) + (i : Int))) == 0))).all id = decide ((k : Int) ∈ primesL) := by
  have h := List.all_eq_true.mp primes_tab k (List.mem_range.mpr hk)
  rw [decide_eq_true h2, Bool.not_true, Bool.false_or, beq_iff_eq] at h
  have e1 : (fun (i : Nat) => (!(((k : Int) % ((2 : Int) + (i : Int))) == 0))) = fun i => !(k % (2 + i) == 0) := by
    funext i
    rw [show ((2 : Int) + (i : Int)) = ((2 + i : Nat) : Int) by omega, ← Int.natCast_emod]
    congr 1
    rw [Bool.eq_iff_iff, beq_iff_eq, beq_iff_eq]
    omega
  rw [e1, List.all_map]
  show ((List.range (k - 2)).all fun i => !(k % (2 + i) == 0)) = _
  rw [h, List.contains_eq_mem]
  have e2 : primesL = primesN.map fun (n : Nat) => (n : Int) := rfl
  rw [Bool.eq_iff_iff, decide_eq_true_eq, decide_eq_true_eq, e2, List.mem_map]
  constructor
  · exact fun z => ⟨k, z, rfl⟩
  · rintro ⟨n, z, e⟩
    rw [show k = n by omega]; exact z
theorem primesL_le : ∀ n ∈ primesL, 2 ≤ n ∧ n ≤ 97 := by decide
def neM (k : Int) : PV → PV
  | .int i => .bl (!((k % i) == 0))
  | _ => .non
theorem prime_hr (k : Nat) (hk : k < 98) (h2 : 2 ≤ k) : iR rng2 (aCons (eC (.int 2)) (aCons (eVo 0) aNil)) [.val (.int (k : Int)), .un] = .ok (rngL 2 (k - 2)) := by
  simp only [iR_eq, aCons_eq, eC_eq, bind1, eVo0, aNil_eq]
  rw [rng2_sm (by omega) (by omega) (by omega) (by omega)]
  rw [show ((k : Int) - 2).toNat = k - 2 by omega]
theorem prime_hm (k : Nat) : lcGo (gN 1) cYes (e2 neP (e2 modP (eVo 0) (eVo 1)) (eC (.int 0))) [.val (.int (k : Int)), .un] (rngL 2 (k - 2)) = .ok ((rngL 2 (k - 2)).map (neM k)) :=
  lcGo_map _ _ fun q hq => by
    unfold rngL at hq
    obtain ⟨i, hi, rfl⟩ := List.mem_map.mp hq
    refine ⟨_, rfl, ?_⟩
    simp only [e2_eq, eVo0, bind1, List.set_cons_succ, List.set_cons_zero, eVos, eC_eq]
    rw [modP_pos (by omega)]
    simp [neM]
theorem prime_map (k : Nat) : (rngL 2 (k - 2)).map (neM k) = (((List.range (k - 2)).map fun (i : Nat) => (!(((k : Int) % ((2 : Int) + (i : Int))) == 0)))).map PV.bl := by
  unfold rngL
  rw [List.map_map, List.map_map]
  rfl
theorem allP_bl (bs : List Bool) : allP [.lst (bs.map PV.bl)] = .ok (.bl (bs.all id)) := by
  unfold allP
  dsimp only
  rw [asBs_of]
def primeBs (k : Nat) : List Bool := (List.range (k - 2)).map fun (i : Nat) => (!(((k : Int) % ((2 : Int) + (i : Int))) == 0))
theorem prime_he (k : Nat) (hk : k < 98) (h2 : 2 ≤ k) : eLc [1] (iR rng2 (aCons (eC (.int 2)) (aCons (eVo 0) aNil))) (gN 1) cYes (e2 neP (e2 modP (eVo 0) (eVo 1)) (eC (.int 0))) [.val (.int (k : Int)), .un] = .ok (.lst ((primeBs k).map PV.bl)) := by
  rw [eLc_ok (vs := [1]) (test := cYes) (ρ := [.val (.int (k : Int)), .un]) rfl (prime_hr k hk h2) (by rw [rngL_len]; omega) (prime_hm k), prime_map]
  rfl
theorem f_is_prime (p : PV) : F_is_prime [p] = .ok (.bl (isP p)) := by
  show (D_is_prime [.val p, .un]).res = _
  by_cases hw : isW p = true
  · cases p with
    | int n =>
      by_cases h2 : n < 2
      · have : ¬ n ∈ primesL := fun h => by have := primesL_le n h; omega
        simp [D_is_prime, f_is_whole, isW, h2, isP, this]
      · by_cases h97 : 97 < n
        · have : ¬ n ∈ primesL := fun h => by have := primesL_le n h; omega
          simp [D_is_prime, f_is_whole, isW, h2, h97, isP, this]
        · obtain ⟨k, rfl⟩ : ∃ k : Nat, n = (k : Int) := ⟨n.toNat, by omega⟩
          unfold D_is_prime
          have hb : (primeBs k).all id = decide ((k : Int) ∈ primesL) := primes_by k (by omega) (by omega)
          simp [D_is_prime, f_is_whole, isW, h2, h97, isP, prime_he k (by omega) (by omega), allP_bl, hb]
    | _ => simp [isW] at hw
  · have hw' : isW p = false := by cases h : isW p <;> simp_all
    have hp : isP p = false := by cases p <;> simp_all [isP, isW]
    simp [D_is_prime, f_is_whole, hw', hp]
theorem f_exponent (p m : Int) (hp : 2 ≤ p) (hp2 : p < 2 ^ 8000) (hm : m % p ≠ 0) (k : Nat) : F_exponent [.int p, .int (m * p ^ k)] = .ok (.int k) := by
  have turn : ∀ k : Nat, divmodP [.int (m * p ^ k), .int p] = .ok (.tup [.int (m * p ^ k / p), .int (m * p ^ k % p)]) := fun k => divmodP_pos (by omega) (by omega)
  have up : ∀ k : Nat, m * p ^ (k + 1) / p = m * p ^ k ∧ m * p ^ (k + 1) % p = 0 := fun k => by
    rw [Int.pow_succ, ← Int.mul_assoc]
    exact ⟨Int.mul_ediv_cancel _ (by omega), Int.mul_emod_left _ _⟩
  have run : ∀ (j : Nat) (c : Int) (a : PV), sWh (tB1 (e2 eqP (eVo 4) (eC (.int 0)))) (bSeq (sAug 2 (intP (fun _ _ => true) fun a b => .int (a + b)) (eC (.int 1))) (bSeq (sTo (gT (gsCons (gN 3) (gsCons (gN 4) gsNil))) (eD divmodP (aCons (eVo 3) (aCons (eVo 0) aNil)))) bNil))
      [.val (.int p), .val a, .val (.int c), .val (.int (m * p ^ j / p)), .val (.int (m * p ^ j % p))] = .next [.val (.int p), .val a, .val (.int (c + j)), .val (.int (m / p)), .val (.int (m % p))] := by
    intro j
    induction j with
    | zero =>
      intro c a
      have hm' : (m % p == 0) = false := by simpa using hm
      rw [sWh_eq]
      simp [hm']
    | succ j ih =>
      intro c a
      rw [sWh_eq, (up j).1, (up j).2]
      simp [turn, ih]
      omega
  show (D_exponent [.val (.int p), .val (.int (m * p ^ k)), .un, .un, .un]).res = _
  simp [D_exponent, turn, run]
end PM
set_option Elab.async false
set_option linter.all false
set_option maxRecDepth 100000
set_option autoImplicit false
namespace PM
open PySem PySem.Spec L2 PL
open PyProof.Rows hiding St
def R.own (r : R (List PV)) (ρ : Rho) (i : Nat) : Out := match r with
  | .ok qs => .next (ρ.set i (.own qs))
  | _ => .stuck
@[simp] theorem own_ok {qs : List PV} {ρ : Rho} {i : Nat} : R.own (.ok qs) ρ i = .next (ρ.set i (.own qs)) := nr rfl
def getOwn (ρ : Rho) (i : Nat) : Option (List PV) := match ρ[i]? with
  | some (.own ps) => some ps
  | _ => none
@[simp] theorem getOwn0 {ps : List PV} {ρ : Rho} : getOwn (.own ps :: ρ) 0 = some ps := nr rfl
@[simp] theorem getOwnS {s : Slot} {ρ : Rho} {i : Nat} : getOwn (s :: ρ) (i + 1) = getOwn ρ i := by simp [getOwn]
def onOwn (o : Option (List PV)) (k : List PV → Out) : Out := match o with
  | some ps => k ps
  | none => .stuck
@[simp] theorem onOwn_some {ps : List PV} {k : List PV → Out} : onOwn (some ps) k = k ps := nr rfl
@[simp] theorem sMut_eq {i : Nat} {g : List PV → PV → R (List PV)} {f : Rho → R PV} {ρ : Rho} : sMut i g f ρ = onOwn (getOwn ρ i) fun ps => (f ρ).st ρ fun p => R.own (g ps p) ρ i := by
  unfold sMut getOwn
  cases ρ[i]? with
  | none => rfl
  | some t => cases t <;> rfl
def asL : PV → R (List PV)
  | .lst l => .ok l
  | _ => .stuck
@[simp] theorem asL_l {l : List PV} : asL (.lst l) = .ok l := nr rfl
@[simp] theorem sSetO_eq {i : Nat} {f : Rho → R PV} {ρ : Rho} : sSetO i f ρ = (f ρ).st ρ fun p => R.own (asL p) ρ i := by
  unfold sSetO sE R.st R.own asL
  cases f ρ with
  | ok p => cases p <;> rfl
  | exc c => rfl
  | stuck => rfl
@[simp] theorem sRetO_eq {i : Nat} {ρ : Rho} : sRetO i ρ = onOwn (getOwn ρ i) fun ps => .ret (.lst ps) := by
  unfold sRetO getOwn
  cases ρ[i]? with
  | none => rfl
  | some t => cases t <;> rfl
def frzR (ρ : Rho) (i : Nat) : Rho := match ρ[i]? with
  | some (.own ps) => ρ.set i (.val (.lst ps))
  | _ => ρ
@[simp] theorem frzR0 {ps : List PV} {ρ : Rho} : frzR (.own ps :: ρ) 0 = .val (.lst ps) :: ρ := nr rfl
@[simp] theorem frzR0v {p : PV} {ρ : Rho} : frzR (.val p :: ρ) 0 = .val p :: ρ := nr rfl
@[simp] theorem frzR0u {ρ : Rho} : frzR (.un :: ρ) 0 = .un :: ρ := nr rfl
@[simp] theorem frzRS {s : Slot} {ρ : Rho} {i : Nat} : frzR (s :: ρ) (i + 1) = s :: frzR ρ i := by
  unfold frzR
  rw [List.getElem?_cons_succ]
  cases ρ[i]? with
  | none => rfl
  | some t => cases t <;> rfl
@[simp] theorem sFrz_eq {i : Nat} {g : Rho → Out} {ρ : Rho} : sFrz i g ρ = g (frzR ρ i) := by
  unfold sFrz frzR
  cases ρ[i]? with
  | none => rfl
  | some t => cases t <;> rfl
theorem appP_ok {l : List PV} {p : PV} (h : l.length < 1000000) : appP l p = .ok (l ++ [p]) := by
  unfold appP
  rw [if_pos (Nat.lt_of_lt_of_le h (size_ok (Nat.le_refl _)))]
@[simp] theorem sSetI_eq {i : Nat} {f fi : Rho → R PV} {ρ : Rho} : sSetI i f fi ρ = onOwn (getOwn ρ i) fun ps => (f ρ).st ρ fun p => (fi ρ).st ρ fun q => R.own (setP ps p q) ρ i := by
  unfold sSetI getOwn
  cases ρ[i]? with
  | none => rfl
  | some t => cases t <;> rfl
theorem setP_ok {l : List PV} {p : PV} {k : Int} (h : 0 ≤ k) (h2 : k < l.length) : setP l p (.int k) = .ok (l.set k.toNat p) := by
  unfold setP ixN
  dsimp only
  rw [if_pos h, if_pos h2]
def Out.fo (o : Out) (k : Rho → Out) : Out := match o with
  | .next ρ => k ρ
  | .cont ρ => k ρ
  | .brk ρ => .next ρ
  | o => o
@[simp] theorem fo_next {ρ : Rho} {k : Rho → Out} : Out.fo (.next ρ) k = k ρ := nr rfl
@[simp] theorem fo_cont {ρ : Rho} {k : Rho → Out} : Out.fo (.cont ρ) k = k ρ := nr rfl
@[simp] theorem fo_brk {ρ : Rho} {k : Rho → Out} : Out.fo (.brk ρ) k = .next ρ := nr rfl
@[simp] theorem fo_ret {p : PV} {k : Rho → Out} : Out.fo (.ret p) k = .ret p := nr rfl
@[simp] theorem fo_exc {c : Str} {ρ : Rho} {k : Rho → Out} : Out.fo (.exc c ρ) k = .exc c ρ := nr rfl
@[simp] theorem forL_nil {tgt : PV → Rho → Option Rho} {body : Rho → Out} {ρ : Rho} : forL tgt body [] ρ = .next ρ := nr rfl
def onR (o : Option Rho) (k : Rho → Out) : Out := match o with
  | some ρ => k ρ
  | none => .stuck
@[simp] theorem onR_some {ρ : Rho} {k : Rho → Out} : onR (some ρ) k = k ρ := nr rfl
theorem forL_cons {tgt : PV → Rho → Option Rho} {body : Rho → Out} {p : PV} {ps : List PV} {ρ : Rho} : forL tgt body (p :: ps) ρ = onR (tgt p ρ) fun ρ1 => Out.fo (body ρ1) (forL tgt body ps) := by
  show (match tgt p ρ with | none => Out.stuck | some ρ1 => match body ρ1 with | .next ρ' => forL tgt body ps ρ' | .cont ρ' => forL tgt body ps ρ' | .brk ρ' => .next ρ' | o => o) = _
  unfold onR Out.fo
  cases tgt p ρ with
  | none => rfl
  | some ρ1 => cases body ρ1 <;> rfl
theorem cut_map {α β : Type} (f : α → β) (l : List α) (lo hi : Option Int) : cutG (l.map f) lo hi = (cutG l lo hi).map f := by
  unfold cutG
  rw [List.length_map, List.map_take, List.map_drop]
theorem cut_len {α : Type} (l : List α) (lo hi : Option Int) : (cutG l lo hi).length ≤ l.length := by
  unfold cutG
  rw [List.length_take, List.length_drop]
  omega
theorem sIx_none (n k : Nat) : HT.sIx n k none = k := rfl
theorem cut_drop {α : Type} (l : List α) (k : Int) (h : 0 ≤ k) : cutG l (some k) none = l.drop k.toNat := by
  unfold cutG
  have e : HT.sIx l.length 0 (some k) = min k.toNat l.length := by
    unfold HT.sIx; dsimp only; rw [if_neg (by omega)]
  rw [e, sIx_none]
  rw [List.take_of_length_le (by rw [List.length_drop]; omega)]
  by_cases h2 : k.toNat ≤ l.length
  · rw [Nat.min_eq_left h2]
  · rw [Nat.min_eq_right (by omega), List.drop_eq_nil_of_le (Nat.le_refl _), List.drop_eq_nil_of_le (by omega)]
theorem cut_take {α : Type} (l : List α) (k : Int) (h : 0 ≤ k) : cutG l none (some k) = l.take k.toNat := by
  unfold cutG
  have e : HT.sIx l.length l.length (some k) = min k.toNat l.length := by
    unfold HT.sIx; dsimp only; rw [if_neg (by omega)]
  rw [e, sIx_none, List.drop_zero, Nat.sub_zero]
  by_cases h2 : k.toNat ≤ l.length
  · rw [Nat.min_eq_left h2]
  · rw [Nat.min_eq_right (by omega), List.take_of_length_le (Nat.le_refl _), List.take_of_length_le (by omega)]
theorem cut_both {α : Type} (l : List α) (j k : Int) (h : 0 ≤ j) (hk : j ≤ k) : cutG l (some j) (some k) = (l.drop j.toNat).take (k.toNat - j.toNat) := by
  unfold cutG
  have e : HT.sIx l.length l.length (some k) = min k.toNat l.length := by
    unfold HT.sIx; dsimp only; rw [if_neg (by omega)]
  have e2 : HT.sIx l.length 0 (some j) = min j.toNat l.length := by
    unfold HT.sIx; dsimp only; rw [if_neg (by omega)]
  rw [e, e2]
  by_cases h2 : j.toNat ≤ l.length
  · rw [Nat.min_eq_left h2]
    by_cases h3 : k.toNat ≤ l.length
    · rw [Nat.min_eq_left h3]
    · rw [Nat.min_eq_right (by omega), List.take_of_length_le (by rw [List.length_drop]; omega), List.take_of_length_le (by rw [List.length_drop]; omega)]
  · rw [Nat.min_eq_right (by omega : l.length ≤ j.toNat), List.drop_eq_nil_of_le (Nat.le_refl _), List.drop_eq_nil_of_le (by omega), List.take_nil, List.take_nil]
@[simp] theorem eSl_eq {g : PV → Option Int → Option Int → R PV} {f : Rho → R PV} {lo hi : Rho → R (Option Int)} {ρ : Rho} : eSl g f lo hi ρ = (f ρ).bind fun p => (lo ρ).bind fun l => (hi ρ).bind fun h => g p l h := nr rfl
@[simp] theorem oNone_eq {ρ : Rho} : oNone ρ = .ok none := nr rfl
@[simp] theorem oSome_eq {f : Rho → R PV} {ρ : Rho} : oSome f ρ = (f ρ).bind fun p => (asI p).bind fun i => .ok (some i) := nr rfl
@[simp] theorem slP_l {l : List PV} {lo hi : Option Int} : slP (.lst l) lo hi = .ok (.lst (cutG l lo hi)) := nr rfl
@[simp] theorem slP_f {l : List PV} {lo hi : Option Int} : slP (.frz l) lo hi = .ok (.lst (cutG l lo hi)) := nr rfl
@[simp] theorem slP_t {l : List PV} {lo hi : Option Int} : slP (.tup l) lo hi = .ok (.tup (cutG l lo hi)) := nr rfl
@[simp] theorem slL_l {l : List PV} {lo hi : Option Int} : slL (.lst l) lo hi = .ok (.lst (cutG l lo hi)) := nr rfl
@[simp] theorem tupleP_l {l : List PV} : tupleP [.lst l] = .ok (.tup l) := nr rfl
@[simp] theorem tupleP_t {l : List PV} : tupleP [.tup l] = .ok (.tup l) := nr rfl
@[simp] theorem tupleP_f {l : List PV} : tupleP [.frz l] = .ok (.tup l) := nr rfl
@[simp] theorem listP_l {l : List PV} : listP [.lst l] = .ok (.lst l) := nr rfl
@[simp] theorem listP_t {l : List PV} : listP [.tup l] = .ok (.lst l) := nr rfl
theorem addP_ok {a b : List PV} (h : a.length + b.length ≤ 1000000) : addP (.lst a) (.lst b) = .ok (.lst (a ++ b)) := by
  unfold addP; dsimp only; rw [if_pos (size_ok h)]
def figOk (p : Int) : PV → Bool
  | .int n => decide (0 ≤ n) && decide (n < p)
  | _ => false
theorem all_map (p : Int) (l : List PV) : (l.map (figOk p)).all id = l.all (figOk p) := by rw [List.all_map]; rfl
/-- the items of a written list or tuple of numbers -/
def SeqI (x : PV) (ds : List Int) : Prop := x = .lst (ds.map PV.int) ∨ x = .tup (ds.map PV.int)
theorem SeqI.ix {x : PV} {ds : List Int} (h : SeqI x ds) (k : Nat) (hk : k < ds.length) : ixP x (.int k) = .ok (.int (ds.getD k 0)) := by
  rcases h with rfl | rfl
  · exact ixP_lst (by omega) (getD_map ds _ (by omega))
  · exact ixP_tup (by omega) (getD_map ds _ (by omega))
theorem SeqI.len {x : PV} {ds : List Int} (h : SeqI x ds) : lenP [x] = .ok (.int ds.length) := by
  rcases h with rfl | rfl <;> simp
theorem SeqI.tail {x : PV} {ds : List Int} (h : SeqI x ds) (k : Nat) : ((slP x (some k) none).bind fun y => tupleP [y]) = .ok (.tup ((ds.drop k).map PV.int)) := by
  rcases h with rfl | rfl <;> simp [cut_drop]
@[simp] theorem eqP_tt0 : eqP (.tup []) (.tup []) = .ok (.bl true) := by rw [eqP_ok (by simp) (by simp)]; simp
end PM
set_option Elab.async false
set_option linter.all false
set_option maxRecDepth 100000
set_option autoImplicit false
namespace PM
open PySem PySem.Spec L2 PL
open PyProof.Rows hiding St
@[simp] theorem sPar_eq {i j : Nat} {f g : Rho → R PV} {ρ : Rho} : sPar i j (aCons f (aCons g aNil)) ρ = (f ρ).st ρ fun p => (g ρ).st ρ fun q => .next ((ρ.set i (.val p)).set j (.val q)) := by
  unfold sPar aCons R.st
  cases f ρ with
  | exc c => rfl
  | stuck => rfl
  | ok p => cases g ρ <;> rfl
@[simp] theorem absP_i {a : Int} : absP [.int a] = .ok (.int a.natAbs) := by
  have e : absP [.int a] = .ok (.int (if a < 0 then -a else a)) := rfl
  rw [e]
  congr 2
  split <;> omega
/-- the sign and the share -/
def fs (t b : Int) : Int := if b < 0 then -(Int.gcd t b : Int) else (Int.gcd t b : Int)
theorem val_ex (p : Int) (hp : 2 ≤ p) : ∀ (k : Nat) (n : Int), n.natAbs ≤ k → n ≠ 0 → ∃ (m : Int) (v : Nat), n = m * p ^ v ∧ m % p ≠ 0 := by
  intro k
  induction k with
  | zero => intro n h h0; omega
  | succ k ih =>
    intro n h h0
    by_cases hd : n % p = 0
    · have e : n / p * p = n := Int.ediv_mul_cancel (Int.dvd_of_emod_eq_zero hd)
      have hn : n / p ≠ 0 := fun z => by rw [z, Int.zero_mul] at e; exact h0 e.symm
      have hlt : (n / p).natAbs < n.natAbs := by
        have : n.natAbs = (n / p).natAbs * p.natAbs := by rw [← Int.natAbs_mul, e]
        have h1 : 0 < (n / p).natAbs := by omega
        have h2 : 2 ≤ p.natAbs := by omega
        have := Nat.mul_le_mul_left (n / p).natAbs h2
        omega
      obtain ⟨m, v, e2, hm⟩ := ih (n / p) (by omega) hn
      refine ⟨m, v + 1, ?_, hm⟩
      rw [Int.pow_succ, ← Int.mul_assoc, ← e2, e]
    · exact ⟨n, 0, by simp, hd⟩
/-- how often p divides n -/
noncomputable def vp (p n : Int) : Int := if h : 2 ≤ p ∧ n ≠ 0 then ((val_ex p h.1 n.natAbs n (Nat.le_refl _) h.2).choose_spec.choose : Nat) else 0
theorem vp_spec {p n : Int} (hp : 2 ≤ p) (hn : n ≠ 0) : ∃ (m : Int) (v : Nat), n = m * p ^ v ∧ m % p ≠ 0 ∧ vp p n = v := by
  have h : 2 ≤ p ∧ n ≠ 0 := ⟨hp, hn⟩
  have s := (val_ex p h.1 n.natAbs n (Nat.le_refl _) h.2).choose_spec.choose_spec
  exact ⟨_, _, s.1, s.2, by unfold vp; rw [dif_pos h]⟩
theorem f_exp {p n : Int} (hp : 2 ≤ p) (hp2 : p < 2 ^ 8000) (hn : n ≠ 0) : F_exponent [.int p, .int n] = .ok (.int (vp p n)) := by
  obtain ⟨m, v, e, hm, hv⟩ := vp_spec hp hn
  rw [hv]
  conv => lhs; rw [e]
  exact f_exponent p m hp hp2 hm v
theorem vp_uniq {p m n : Int} {u v : Nat} (hp : 2 ≤ p) (e : m * p ^ u = n * p ^ v) (hm : m % p ≠ 0) (hn : n % p ≠ 0) : u = v := by
  have key : ∀ {m n : Int} {u v : Nat}, m * p ^ u = n * p ^ v → m % p ≠ 0 → n % p ≠ 0 → u ≤ v := fun {m n u v} e hm hn => by
    refine Nat.le_of_not_lt fun h => hn ?_
    obtain ⟨k, rfl⟩ : ∃ k, u = v + (k + 1) := ⟨u - v - 1, by omega⟩
    rw [Int.pow_add, Int.mul_comm (p ^ v), ← Int.mul_assoc] at e
    have hpv : p ^ v ≠ 0 := Int.pow_ne_zero (by omega)
    have e2 := Int.eq_of_mul_eq_mul_right hpv e
    rw [← e2, Int.pow_succ, ← Int.mul_assoc]
    exact Int.mul_emod_left _ _
  exact Nat.le_antisymm (key e hm hn) (key e.symm hn hm)
end PM
namespace PM
end PM
namespace PM
open PySem PySem.Spec L2 PL
open PyProof.Rows hiding St
theorem stp {i : Nat} {f : Rho → R PV} {k : Rho → Out} {ρ : Rho} (p : PV) {r : R PV} (h : f ρ = .ok p) (g : (k (ρ.set i (.val p))).res = r) : (bSeq (sSet i f) k ρ).res = r := by
  rw [bSeq_eq, sSet_eq, h, st_ok, then_next]; exact g
theorem skp {t : Rho → R Bool} {u k : Rho → Out} {ρ : Rho} {r : R PV} (h : t ρ = .ok false) (g : (k ρ).res = r) : (bSeq (sIf t u bNil) k ρ).res = r := by
  rw [bSeq_eq, sIf_eq, h, stB_ok, if_neg Bool.false_ne_true, bNil_eq, then_next]; exact g
theorem ifT {t : Rho → R Bool} {u v k : Rho → Out} {ρ : Rho} {r : R PV} (h : t ρ = .ok true) (g : (bSeq u k ρ).res = r) : (bSeq (sIf t u v) k ρ).res = r := by
  rw [bSeq_eq, sIf_eq, h, stB_ok, if_pos rfl]; exact g
end PM
namespace PM
open PySem PySem.Spec L2 PL
open PyProof.Rows hiding St
theorem sTry_exc {i : Nat} {cs : List Str} {body : Rho → Out} {su : Str → Addr → Rho → Out} {ρ ρ' : Rho} {c : Str} {o : Out} (h : body ρ = .exc c ρ') (hc : c ∈ cs) (h2 : ∀ a, behindX i (su c a (ρ'.set i (.ex a))) = o) : sTry i cs body su ρ = o := by
  unfold sTry
  rw [h]
  dsimp only
  rw [if_pos hc]
  exact tryX_of h2
@[simp] theorem isX0 {a : Addr} {b : Bool} {ρ : Rho} : isX 0 a b (.ex a :: ρ) = .ok (.bl b) := by
  have e : isX 0 a b (.ex a :: ρ) = (if a = a then .ok (.bl b) else .stuck) := rfl
  rw [e, if_pos rfl]
@[simp] theorem isXs {i : Nat} {a : Addr} {b : Bool} {s : Slot} {ρ : Rho} : isX (i + 1) a b (s :: ρ) = isX i a b ρ := by simp [isX]
@[simp] theorem hotCs {i : Nat} {a : Addr} {F : Addr → R PV} {s : Slot} {ρ : Rho} : hotC (i + 1) a F (s :: ρ) = hotC i a F ρ := by simp [hotC]
@[simp] theorem behind_next {i : Nat} {ρ : Rho} : behindX i (.next ρ) = .next (ρ.set i .un) := nr rfl
@[simp] theorem behind_ret {i : Nat} {p : PV} : behindX i (.ret p) = .ret p := nr rfl
end PM
set_option Elab.async false
set_option linter.all false
set_option maxRecDepth 100000
set_option autoImplicit false
set_option exponentiation.threshold 20000
namespace PM
open PySem PySem.Spec L2 PL
open PyProof.Rows hiding St
def Dg (p : Int) (ds : List Int) : Prop := ∀ d ∈ ds, 0 ≤ d ∧ d < p
def U (p : Int) : List Int → Int
  | [] => 0
  | d :: r => U p r * p + d
theorem Dg.tail {p d : Int} {r : List Int} (h : Dg p (d :: r)) : Dg p r := fun x hx => h x (List.mem_cons_of_mem _ hx)
def digs (p : Int) : Int → Nat → List Int
  | _, 0 => []
  | n, k + 1 => (n % p) :: digs p (n / p) k
/-- a left number in its form -/
structure Lf (p : Int) (ds : List Int) (n : Nat) : Prop where
  pr : p ∈ primesL
  dg : Dg p ds
  hd : ds.head? ≠ some 0
  len : ds.length ≤ n
theorem Lf.b {p : Int} {ds : List Int} {n : Nat} (h : Lf p ds n) : 2 ≤ p ∧ p ≤ 97 := primesL_le p h.pr
end PM
namespace PM
open PL
end PM
namespace PM
open PySem PySem.Spec L2 PL
open PyProof.Rows hiding St
end PM
namespace PM
open PySem PySem.Spec L2 PL
open PyProof.Rows hiding St
end PM
set_option Elab.async false
set_option linter.all false
set_option maxRecDepth 100000
set_option autoImplicit false
set_option exponentiation.threshold 20000
namespace PM
open PySem PySem.Spec L2 PL
open PyProof.Rows hiding St
/-- alike but for multiples -/
def Mo (m x y : Int) : Prop := ∃ z, x = y + m * z
theorem Mo.refl (m x : Int) : Mo m x x := ⟨0, by simp⟩
theorem Mo.of_eq {m x y : Int} (h : x = y) : Mo m x y := h ▸ Mo.refl m x
theorem Mo.symm {m x y : Int} (h : Mo m x y) : Mo m y x := by obtain ⟨z, h⟩ := h; exact ⟨-z, by grind⟩
theorem Mo.trans {m x y w : Int} (h : Mo m x y) (g : Mo m y w) : Mo m x w := by
  obtain ⟨z, h⟩ := h; obtain ⟨u, g⟩ := g; exact ⟨z + u, by grind⟩
theorem Mo.add {m x y u v : Int} (h : Mo m x y) (g : Mo m u v) : Mo m (x + u) (y + v) := by
  obtain ⟨z, h⟩ := h; obtain ⟨w, g⟩ := g; exact ⟨z + w, by grind⟩
theorem Mo.sub {m x y u v : Int} (h : Mo m x y) (g : Mo m u v) : Mo m (x - u) (y - v) := by
  obtain ⟨z, h⟩ := h; obtain ⟨w, g⟩ := g; exact ⟨z - w, by grind⟩
theorem Mo.mul {m x y u v : Int} (h : Mo m x y) (g : Mo m u v) : Mo m (x * u) (y * v) := by
  obtain ⟨z, h⟩ := h; obtain ⟨w, g⟩ := g; exact ⟨y * w + z * v + m * z * w, by subst h g; grind⟩
theorem Mo.dvd {m k x y : Int} (h : Mo (m * k) x y) : Mo m x y := by
  obtain ⟨z, h⟩ := h; exact ⟨k * z, by rw [h, Int.mul_assoc]⟩
theorem Mo.scale {m x y : Int} (k : Int) (h : Mo m x y) : Mo (m * k) (x * k) (y * k) := by
  obtain ⟨z, h⟩ := h; exact ⟨z, by subst h; grind⟩
theorem Mo.eq {m x y : Int} (h : Mo m x y) : x % m = y % m := by
  obtain ⟨z, h⟩ := h; rw [h, Int.add_mul_emod_self_left]
theorem pow_split (p : Int) {a b : Nat} (h : a ≤ b) : p ^ b = p ^ a * p ^ (b - a) := by rw [← Int.pow_add]; congr 1; omega
theorem Mo.low {p x y : Int} {a b : Nat} (h : Mo (p ^ b) x y) (hab : a ≤ b) : Mo (p ^ a) x y := by
  rw [pow_split p hab] at h; exact h.dvd
/-- the figures' sum over a base -/
def V (p b e : Int) (ds : List Int) : Int := U p ds * p ^ (e - b).toNat
theorem V_self (p e : Int) (ds : List Int) : V p e e ds = U p ds := by unfold V; rw [Int.sub_self]; simp
theorem V_shift (p : Int) {b c e : Int} (ds : List Int) (h : b ≤ c) (h2 : c ≤ e) : V p b e ds = V p c e ds * p ^ (c - b).toNat := by
  unfold V; rw [Int.mul_assoc, ← Int.pow_add]; congr 2; omega
/-- one goes on where the other ends -/
structure Ext (p e' : Int) (ds' : List Int) (e : Int) (ds : List Int) : Prop where
  le : e ≤ e'
  en : e + ds.length ≤ e' + ds'.length
  mo : Mo (p ^ ds.length) (V p e e' ds') (U p ds)
theorem Ext.refl (p e : Int) (ds : List Int) : Ext p e ds e ds := ⟨Int.le_refl _, Int.le_refl _, by rw [V_self]; exact Mo.refl _ _⟩
theorem Ext.base {p e' e : Int} {ds' ds : List Int} (h : Ext p e' ds' e ds) {b : Int} (hb : b ≤ e) : Mo (p ^ (e + ds.length - b).toNat) (V p b e' ds') (V p b e ds) := by
  rw [V_shift p ds' hb h.le, V_shift p ds hb (Int.le_refl e), V_self, show (e + ds.length - b).toNat = ds.length + (e - b).toNat by omega, Int.pow_add]
  exact h.mo.scale _
end PM
namespace PM
open PySem PySem.Spec L2 PL
open PyProof.Rows hiding St
theorem prime_mul : ∀ p ∈ primesN, ∀ a : Nat, a < p → ∀ b : Nat, b < p → a ≠ 0 → b ≠ 0 → a * b % p ≠ 0 := by decide +kernel
theorem prime_mulI {p a b : Int} (hp : p ∈ primesL) (ha : a % p ≠ 0) (hb : b % p ≠ 0) : a * b % p ≠ 0 := by
  have hpb := primesL_le p hp
  rw [Int.mul_emod]
  have a1 := Int.emod_nonneg a (show p ≠ 0 by omega)
  have a2 := Int.emod_lt_of_pos a (show 0 < p by omega)
  have b1 := Int.emod_nonneg b (show p ≠ 0 by omega)
  have b2 := Int.emod_lt_of_pos b (show 0 < p by omega)
  have e2 : primesL = primesN.map fun (n : Nat) => (n : Int) := rfl
  rw [e2] at hp
  obtain ⟨n, hn, rfl⟩ := List.mem_map.mp hp
  obtain ⟨x, hx⟩ : ∃ x : Nat, a % (n : Int) = x := ⟨(a % (n : Int)).toNat, by omega⟩
  obtain ⟨y, hy⟩ : ∃ y : Nat, b % (n : Int) = y := ⟨(b % (n : Int)).toNat, by omega⟩
  rw [hx, hy]
  rw [hx] at ha a2
  rw [hy] at hb b2
  have := prime_mul n hn x (by omega) y (by omega) (by omega) (by omega)
  rw [← Int.natCast_mul, ← Int.natCast_emod]
  omega
end PM
namespace PM
open PySem PySem.Spec L2 PL
open PyProof.Rows hiding St
theorem Lf.le {p : Int} {ds : List Int} {n m : Nat} (h : Lf p ds n) (hm : n ≤ m) : Lf p ds m := ⟨h.pr, h.dg, h.hd, Nat.le_trans h.len hm⟩
end PM
set_option Elab.async false
set_option linter.all false
set_option maxRecDepth 100000
set_option autoImplicit false
set_option exponentiation.threshold 20000
namespace PM
open PySem PySem.Spec L2 PL
open PyProof.Rows hiding St
theorem prime_cop : ∀ p ∈ primesN, ∀ a : Nat, a < p → a ≠ 0 → Nat.gcd a p = 1 := by decide +kernel
theorem gcd_mod (a w : Int) : Int.gcd (a % w) w = Int.gcd a w := by
  have e : a = a % w + w * (a / w) := by have := Int.mul_ediv_add_emod a w; omega
  conv => rhs; rw [e]
  rw [Int.gcd_add_mul_left_left]
theorem prime_gcd {p a : Int} (hp : p ∈ primesL) (ha : a % p ≠ 0) (k : Nat) : Int.gcd a (p ^ k) = 1 := by
  have hpb := primesL_le p hp
  have e2 : primesL = primesN.map fun (n : Nat) => (n : Int) := rfl
  rw [e2] at hp
  obtain ⟨n, hn, rfl⟩ := List.mem_map.mp hp
  obtain ⟨x, hx⟩ : ∃ x : Nat, a % (n : Int) = x := ⟨(a % (n : Int)).toNat, by have := Int.emod_nonneg a (show (n : Int) ≠ 0 by omega); omega⟩
  have hlt := Int.emod_lt_of_pos a (show 0 < (n : Int) by omega)
  rw [hx] at ha hlt
  have g := prime_cop n hn x (by omega) (by omega)
  have e : Int.gcd a (n : Int) = 1 := by
    have h1 : Int.gcd (a % (n : Int)) (n : Int) = Int.gcd a (n : Int) := gcd_mod _ _
    rw [← h1, hx]; exact g
  have e3 : Nat.Coprime a.natAbs (n ^ k) := Nat.Coprime.pow_right k e
  show Nat.gcd a.natAbs ((n : Int) ^ k).natAbs = 1
  rw [Int.natAbs_pow]; exact e3
theorem le_of_mul_le {a x w : Int} (hx : 0 < x) (ha : 0 ≤ a) (h : a * x ≤ w) : a ≤ w := by
  have := Int.mul_le_mul_of_nonneg_left (show 1 ≤ x by omega) ha
  omega
end PM
namespace PM
open PySem PySem.Spec L2 PL
open PyProof.Rows hiding St
/-- a slot set again under a condition -/
theorem stpW {i : Nat} {t : Rho → R Bool} {f : Rho → R PV} {k : Rho → Out} {ρ : Rho} {r : R PV} (b : Bool) (v old w : PV) (ht : t ρ = .ok b) (hf : b = true → f ρ = .ok v) (ho : ρ.set i (.val old) = ρ) (hw : w = if b = true then v else old) (g : (k (ρ.set i (.val w))).res = r) : (bSeq (sIf t (bSeq (sSet i f) bNil) bNil) k ρ).res = r := by
  rw [bSeq_eq, sIf_eq, ht, stB_ok]
  cases b with
  | true =>
    rw [if_pos rfl] at hw
    subst hw
    rw [if_pos rfl, bSeq_eq, sSet_eq, hf rfl, st_ok, then_next, bNil_eq, then_next]; exact g
  | false =>
    rw [if_neg Bool.false_ne_true] at hw
    subst hw
    rw [ho] at g
    rw [if_neg Bool.false_ne_true, bNil_eq, then_next]; exact g
theorem addT_ok {a b : List PV} (h : a.length + b.length ≤ 1000000) : addP (.tup a) (.tup b) = .ok (.tup (a ++ b)) := by
  unfold addP; dsimp only; rw [if_pos (size_ok h)]
end PM
namespace PM
open PySem PySem.Spec L2 PL
open PyProof.Rows hiding St
end PM
set_option Elab.async false
set_option linter.all false
set_option maxRecDepth 100000
set_option autoImplicit false
set_option exponentiation.threshold 20000
namespace PM
open PySem PySem.Spec L2 PL
open PyProof.Rows hiding St
/-- two neighbours of the row of rests -/
structure Nb (W u z r s v w : Int) : Prop where
  cr : Mo W r (u * s)
  cv : Mo W v (u * w)
  sg : (0 < w ∧ s ≤ 0 ∧ r * w - v * s = W) ∨ (w < 0 ∧ 0 ≤ s ∧ r * w - v * s = -W)
  rz : z < r
  v0 : 0 ≤ v
  vr : v < r
  rW : r ≤ W
  sW : -W ≤ s ∧ s ≤ W
theorem Nb.wW {W u z r s v w : Int} (h : Nb W u z r s v w) (hz : 1 ≤ z) : -W ≤ w ∧ w ≤ W := by
  have hr := h.rz
  have v0 := h.v0
  have hW := h.rW
  rcases h.sg with ⟨h1, h2, h3⟩ | ⟨h1, h2, h3⟩
  · have : v * s ≤ 0 := Int.mul_nonpos_of_nonneg_of_nonpos v0 h2
    have := le_of_mul_le (a := w) (x := r) (w := W) (by omega) (by omega) (by rw [Int.mul_comm]; omega)
    omega
  · have e : 0 ≤ v * s := Int.mul_nonneg v0 h2
    have := le_of_mul_le (a := -w) (x := r) (w := W) (by omega) (by omega) (by rw [Int.neg_mul, Int.mul_comm]; omega)
    omega
theorem Nb.step {W u z r s v w : Int} (h : Nb W u z r s v w) (hz : 1 ≤ z) (hv : z < v) : Nb W u z v w (r % v) (s - r / v * w) := by
  have v0 := h.v0
  have vr := h.vr
  have rW := h.rW
  have ww := h.wW hz
  have q1 : 1 ≤ r / v := (Int.le_ediv_iff_mul_le (by omega)).mpr (by omega)
  have er : r / v * v + r % v = r := by have := Int.mul_ediv_add_emod r v; rw [Int.mul_comm] at this; exact this
  have m0 := Int.emod_nonneg r (show v ≠ 0 by omega)
  have m1 := Int.emod_lt_of_pos r (show 0 < v by omega)
  generalize r / v = q at *
  generalize r % v = m at *
  have det : v * (s - q * w) - m * w = -(r * w - v * s) := by rw [← er]; grind
  refine ⟨h.cv, ?_, ?_, hv, m0, m1, by omega, ww⟩
  · have t := h.cr.sub ((Mo.refl W q).mul h.cv)
    have e : r - q * v = m := by omega
    rw [e] at t
    exact t.trans (.of_eq (by grind))
  · rcases h.sg with ⟨h1, h2, h3⟩ | ⟨h1, h2, h3⟩
    · have : 1 * w ≤ q * w := Int.mul_le_mul_of_nonneg_right q1 (by omega)
      exact .inr ⟨by omega, by omega, by rw [det]; omega⟩
    · have : q * w ≤ 1 * w := Int.mul_le_mul_of_nonpos_right q1 (by omega)
      exact .inl ⟨by omega, by omega, by rw [det]; omega⟩
end PM
set_option Elab.async false
set_option linter.all false
set_option maxRecDepth 100000
set_option autoImplicit false
set_option exponentiation.threshold 20000
namespace PM
open PySem PySem.Spec L2 PL
open PyProof.Rows hiding St
theorem dvd_cop {y x b : Int} (h : y ∣ x * b) (g : Int.gcd y x = 1) : y ∣ b := by
  have h1 : y.natAbs ∣ x.natAbs * b.natAbs := by rw [← Int.natAbs_mul]; exact Int.natAbs_dvd_natAbs.mpr h
  exact Int.natAbs_dvd_natAbs.mp (Nat.Coprime.dvd_of_dvd_mul_left (k := y.natAbs) g h1)
end PM
namespace PM
open PySem PySem.Spec L2 PL
open PyProof.Rows hiding St
theorem stpFor {it : Rho → R (List PV)} {tgt : PV → Rho → Option Rho} {body k : Rho → Out} {ρ : Rho} {r : R PV} (items : List PV) (ρ' : Rho) (hi : it ρ = .ok items) (hf : forL tgt body items ρ = .next ρ') (g : (k ρ').res = r) : (bSeq (sFor it tgt body) k ρ).res = r := by
  rw [bSeq_eq, sFor_eq, hi, stL_ok, hf, then_next]; exact g
end PM
set_option Elab.async false
set_option linter.all false
set_option maxRecDepth 100000
set_option autoImplicit false
set_option exponentiation.threshold 20000
namespace PM
open PySem PySem.Spec L2 PL
open PyProof.Rows hiding St
end PM
set_option Elab.async false
set_option linter.all false
set_option maxRecDepth 100000
set_option autoImplicit false
set_option exponentiation.threshold 20000
namespace PM
open PySem PySem.Spec L2 PL
open PyProof.Rows hiding St
end PM
set_option Elab.async false
set_option linter.all false
set_option maxRecDepth 100000
set_option autoImplicit false
set_option exponentiation.threshold 20000
namespace PM
/-- the sum in A ^ n - B ^ n = (A - B) .. -/
def Gm (A B : Int) : Nat → Int
  | 0 => 0
  | n + 1 => A ^ n + B * Gm A B n
theorem Gm_eq (A B : Int) : ∀ n : Nat, A ^ n = B ^ n + (A - B) * Gm A B n
  | 0 => by simp [Gm]
  | n + 1 => by
    have ih := Gm_eq A B n
    have e : Gm A B (n + 1) = A ^ n + B * Gm A B n := rfl
    rw [e, Int.pow_succ, Int.pow_succ]
    grind
theorem pow_two_up (B D : Int) : ∀ n : Nat, ∃ w, (B + D) ^ (n + 1) = B ^ (n + 1) + (n + 1) * D * B ^ n + D * D * w
  | 0 => ⟨0, by simp [Int.pow_succ]⟩
  | n + 1 => by
    obtain ⟨w, h⟩ := pow_two_up B D n
    refine ⟨(n + 1) * B ^ n + w * (B + D), ?_⟩
    rw [Int.pow_succ, h, Int.pow_succ B (n + 1), Int.pow_succ B n]
    have e : ((n + 1 : Nat) : Int) = (n : Int) + 1 := by omega
    rw [e]
    grind
/-- modulo its square, twice -/
theorem Gm_mod2 (B D : Int) : ∀ n : Nat, ∃ w, 2 * Gm (B + D) B (n + 2) = 2 * (n + 2) * B ^ (n + 1) + (n + 2) * (n + 1) * D * B ^ n + 2 * (D * D) * w
  | 0 => ⟨0, by simp [Gm]; grind⟩
  | n + 1 => by
    obtain ⟨w, h⟩ := Gm_mod2 B D n
    obtain ⟨v, g⟩ := pow_two_up B D (n + 1)
    refine ⟨v + B * w, ?_⟩
    have e : Gm (B + D) B (n + 1 + 2) = (B + D) ^ (n + 2) + B * Gm (B + D) B (n + 2) := rfl
    have e2 : ((n + 1 : Nat) : Int) = (n : Int) + 1 := by omega
    rw [e, Int.mul_add, g, e2]
    rw [e2] at g
    have h' : 2 * (B * Gm (B + D) B (n + 2)) = B * (2 * (n + 2) * B ^ (n + 1) + (n + 2) * (n + 1) * D * B ^ n + 2 * (D * D) * w) := by rw [← h]; grind
    rw [h', Int.pow_succ B (n + 1), Int.pow_succ B n]
    grind
theorem pow_ne {p B : Int} (hp : p ∈ primesL) (hB : B % p ≠ 0) : ∀ n : Nat, B ^ n % p ≠ 0
  | 0 => by
    have := primesL_le p hp
    rw [Int.pow_zero, Int.emod_eq_of_lt (by omega) (by omega)]; omega
  | n + 1 => by rw [Int.pow_succ]; exact prime_mulI hp (pow_ne hp hB n) hB
theorem ne_add {p a b : Int} (ha : a % p ≠ 0) : (a + p * b) % p ≠ 0 := by rw [Int.add_mul_emod_self_left]; exact ha
theorem step_p {p B z : Int} (hp : p ∈ primesL) (hB : B % p ≠ 0) (j : Nat) (hj : 1 ≤ j) (h2 : p = 2 → 2 ≤ j) : ∃ g, Gm (B + p ^ j * z) B p.toNat = p * g ∧ g % p ≠ 0 := by
  have hpb := primesL_le p hp
  by_cases h : p = 2
  · subst h
    obtain ⟨i, rfl⟩ : ∃ i, j = i + 2 := ⟨j - 2, by have := h2 rfl; omega⟩
    refine ⟨B + 2 * (2 ^ i * z), ?_, ne_add hB⟩
    have e : (2 : Int) ^ (i + 2) = 4 * 2 ^ i := by rw [Int.pow_succ, Int.pow_succ]; grind
    rw [e]
    show (B + 4 * 2 ^ i * z) ^ 1 + B * ((B + 4 * 2 ^ i * z) ^ 0 + B * 0) = _
    rw [Int.pow_zero, Int.pow_succ, Int.pow_zero]
    grind
  · obtain ⟨n, hn⟩ : ∃ n, p.toNat = n + 2 := ⟨p.toNat - 2, by omega⟩
    obtain ⟨i, rfl⟩ : ∃ i, j = i + 1 := ⟨j - 1, by omega⟩
    obtain ⟨d, hd⟩ : ∃ d, d = p ^ i * z := ⟨_, rfl⟩
    have eD : p ^ (i + 1) * z = p * d := by rw [hd, Int.pow_succ]; grind
    obtain ⟨w, hw⟩ := Gm_mod2 B (p * d) n
    have ep : (n : Int) + 2 = p := by omega
    rw [ep] at hw
    have e1 : 2 * Gm (B + p * d) B (n + 2) = p * (2 * B ^ (n + 1) + p * ((n + 1) * d * B ^ n + 2 * d * d * w)) := by rw [hw]; grind
    have c2 : (2 : Int) % p ≠ 0 := by rw [Int.emod_eq_of_lt (by omega) (by omega)]; omega
    have dv : p ∣ Gm (B + p * d) B (n + 2) := dvd_cop (x := 2) ⟨_, e1⟩ (by
      have := prime_gcd hp c2 1
      rw [Int.pow_one, Int.gcd_comm] at this
      exact this)
    obtain ⟨g, hg⟩ := dv
    refine ⟨g, by rw [eD, hn]; exact hg, fun k => ?_⟩
    have e2 : 2 * g = 2 * B ^ (n + 1) + p * ((n + 1) * d * B ^ n + 2 * d * d * w) := by
      have : p * (2 * g) = p * (2 * B ^ (n + 1) + p * ((n + 1) * d * B ^ n + 2 * d * d * w)) := by rw [← e1, hg]; grind
      exact Int.eq_of_mul_eq_mul_left (by omega) this
    have e3 := ne_add (p := p) (b := (n + 1) * d * B ^ n + 2 * d * d * w) (prime_mulI hp c2 (pow_ne hp hB (n + 1)))
    rw [← e2, Int.mul_emod, k, Int.mul_zero, Int.zero_emod] at e3
    exact e3 rfl
theorem lte_t {p B : Int} (hp : p ∈ primesL) (hB : B % p ≠ 0) (j : Nat) (y : Int) (hj : 1 ≤ j) (h2 : p = 2 → 2 ≤ j) : ∀ t : Nat, ∃ y', (B + p ^ j * y) ^ (p.toNat ^ t) = B ^ (p.toNat ^ t) + p ^ (j + t) * y' ∧ (y % p ≠ 0 → y' % p ≠ 0)
  | 0 => ⟨y, by simp [Int.pow_succ], fun h => h⟩
  | t + 1 => by
    obtain ⟨y', e, h⟩ := lte_t hp hB j y hj h2 t
    have hB1 := pow_ne hp hB (p.toNat ^ t)
    obtain ⟨g, g1, g2⟩ := step_p (z := y') hp hB1 (j + t) (by omega) (fun k => by have := h2 k; omega)
    have q := Gm_eq (B ^ (p.toNat ^ t) + p ^ (j + t) * y') (B ^ (p.toNat ^ t)) p.toNat
    refine ⟨y' * g, ?_, fun k => prime_mulI hp (h k) g2⟩
    rw [Nat.pow_succ, Int.pow_mul, Int.pow_mul, e, q, g1, show j + (t + 1) = j + t + 1 by omega, Int.pow_succ]
    grind
end PM
namespace PM
open PySem PySem.Spec L2 PL
open PyProof.Rows hiding St
end PM
set_option Elab.async false
set_option linter.all false
set_option maxRecDepth 100000
set_option autoImplicit false
set_option exponentiation.threshold 20000
namespace PM
open PySem PySem.Spec L2 PL
open PyProof.Rows hiding St
end PM
set_option Elab.async false
set_option linter.all false
set_option maxRecDepth 100000
set_option autoImplicit false
set_option exponentiation.threshold 20000
namespace PM
open PySem PySem.Spec L2 PL
open PyProof.Rows hiding St
theorem stpN {c k : Rho → Out} {ρ ρ' : Rho} {r : R PV} (h : c ρ = .next ρ') (g : (k ρ').res = r) : (bSeq c k ρ).res = r := by
  rw [bSeq_eq, h, then_next]; exact g
theorem rngL_step (a : Int) (m : Nat) : rngL a (m + 1) = .int a :: rngL (a + 1) m := by
  unfold rngL
  rw [List.range_succ_eq_map, List.map_cons, List.map_map]
  congr 1
  · simp
  · apply List.map_congr_left
    intro x _
    simp only [Function.comp]
    congr 1
    omega
end PM
set_option Elab.async false
set_option linter.all false
set_option maxRecDepth 100000
set_option autoImplicit false
set_option exponentiation.threshold 20000
namespace PM
open PySem PySem.Spec L2 PL
open PyProof.Rows hiding St
end PM
set_option Elab.async false
set_option linter.all false
set_option maxRecDepth 100000
set_option autoImplicit false
set_option exponentiation.threshold 20000
namespace PM
open PySem PySem.Spec L2 PL
open PyProof.Rows hiding St
end PM
set_option Elab.async false
set_option linter.all false
set_option maxRecDepth 100000
set_option autoImplicit false
set_option exponentiation.threshold 20000
namespace PM
open PySem PySem.Spec L2 PL
open PyProof.Rows hiding St
@[simp] theorem sMut0_eq {i : Nat} {g : List PV → R (List PV)} {ρ : Rho} : sMut0 i g ρ = onOwn (getOwn ρ i) fun ps => R.own (g ps) ρ i := by
  unfold sMut0 getOwn
  cases ρ[i]? with
  | none => rfl
  | some t => cases t <;> rfl
@[simp] theorem clearP_eq {ps : List PV} : clearP ps = .ok [] := nr rfl
def onSome {α : Type} (o : Option α) (k : α → Out) : Out := match o with
  | some a => k a
  | none => .stuck
@[simp] theorem onSome_some {α : Type} {a : α} {k : α → Out} : onSome (some a) k = k a := nr rfl
@[simp] theorem sAugI_eq {i : Nat} {fi f : Rho → R PV} {ρ : Rho} : sAugI i fi f ρ = onOwn (getOwn ρ i) fun ps => (fi ρ).st ρ fun q => onSome (getN ps q) fun x => (f ρ).st ρ fun y => R.own (augN ps q x y) ρ i := by
  unfold sAugI getOwn
  cases ρ[i]? with
  | none => rfl
  | some t => cases t with
    | own ps =>
      dsimp only [onOwn, sE]
      cases fi ρ with
      | stuck => rfl
      | exc c => rfl
      | ok q =>
        dsimp only [R.st]
        cases getN ps q with
        | none => rfl
        | some x =>
          dsimp only [onSome, sE]
          cases f ρ <;> rfl
    | _ => rfl
theorem getN_ints {ns : List Int} {k : Int} (h0 : 0 ≤ k) (h1 : k < ns.length) (h2 : ns.length ≤ 1000000) : getN (ns.map PV.int) (.int k) = some (.int (ns.getD k.toNat 0)) := by
  unfold getN
  dsimp only
  rw [if_pos ⟨h0, by omega⟩, List.getElem?_map, List.getElem?_eq_getElem (by omega), List.getD_eq_getElem?_getD, List.getElem?_eq_getElem (by omega)]
  rfl
theorem augN_ints {ns : List Int} {k a b : Int} (h0 : 0 ≤ k) (h1 : k < ns.length) : augN (ns.map PV.int) (.int k) (.int a) (.int b) = .ok ((ns.set k.toNat (a + b)).map PV.int) := by
  have e : ixN (ns.map PV.int).length k = some k.toNat := by
    unfold ixN
    rw [if_pos h0, List.length_map, if_pos h1]
  unfold augN
  dsimp only
  rw [e]
  dsimp only
  rw [List.map_set]
end PM
set_option Elab.async false
set_option linter.all false
set_option maxRecDepth 100000
set_option autoImplicit false
set_option exponentiation.threshold 20000
namespace PM
open PySem PySem.Spec L2 PL
open PyProof.Rows hiding St
mutual
theorem eqV_self : ∀ (n : Nat) (p : PV), okD n p = true → eqV' p p = true
  | _, .non, _ => rfl
  | _, .bl b, _ => by simp [eqV']
  | _, .int i, _ => by simp [eqV']
  | _, .str s, _ => by simp [eqV']
  | 0, .tup l, h => by simp [okD] at h
  | n + 1, .tup l, h => by rw [eqV']; exact eqVs_self n l (by simpa [okD] using h)
  | 0, .lst l, h => by simp [okD] at h
  | n + 1, .lst l, h => by rw [eqV']; exact eqVs_self n l (by simpa [okD] using h)
  | 0, .frz l, h => by simp [okD] at h
  | n + 1, .frz l, h => by rw [eqV']; exact eqVs_self n l (by simpa [okD] using h)
  | n, .dct, h => by cases n <;> simp [okD] at h
theorem eqVs_self : ∀ (n : Nat) (l : List PV), (∀ x ∈ l, okD n x = true) → eqVs l l = true
  | _, [], _ => by rw [eqVs]
  | n, p :: l, h => by rw [eqVs, eqV_self n p (h p List.mem_cons_self), eqVs_self n l fun x hx => h x (List.mem_cons_of_mem _ hx)]; rfl
end
theorem eqP_self {p : PV} (h : okD 30 p = true) : eqP p p = .ok (.bl true) := by rw [eqP_ok h h, eqV_self 30 p h]
theorem neP_self {p : PV} (h : okD 30 p = true) : neP p p = .ok (.bl false) := by rw [neP_ok h h, eqV_self 30 p h]; rfl
theorem ixP_neg {l : List PV} {x : PV} {k : Nat} (hk : 1 ≤ k) (h : k ≤ l.length) (hx : l[l.length - k]? = some x) : ixP (.lst l) (.int (-(k : Int))) = .ok x := by
  have e : atI l (-(k : Int)) = some x := by
    unfold atI ixN
    rw [if_neg (by omega), if_pos (by omega), Option.bind_some, show (-(k : Int) + l.length).toNat = l.length - k by omega, hx]
  unfold ixP
  dsimp only
  rw [e]
theorem ixP_last (l : List PV) (x : PV) : ixP (.lst (l ++ [x])) (.int (-1)) = .ok x := ixP_neg (k := 1) (by omega) (by simp) (by simp)
def PolyI (as : List Int) : Prop := 2 ≤ as.length ∧ as.length ≤ 9 ∧ as.getLast? ≠ some 0
theorem whole_lc (as : List Int) (x : PV) : lcGo (gN 1) cYes (eD F_is_whole (aCons (eV 1) aNil)) [.val x, .un] (as.map PV.int) = .ok ((as.map fun _ => true).map PV.bl) := by
  rw [show (as.map fun _ => true).map PV.bl = (as.map PV.int).map fun _ => PV.bl true by simp]
  refine lcGo_map _ _ fun q hq => ⟨_, rfl, ?_⟩
  obtain ⟨d, _, rfl⟩ := List.mem_map.mp hq
  simp [f_is_whole, isW]
theorem f_is_poly_i (as : List Int) (h2 : 2 ≤ as.length) (h9 : as.length ≤ 9) : F_is_poly [.lst (as.map PV.int)] = .ok (.bl (decide (as.getLast? ≠ some 0))) := by
  refine (runF_eq (n := 2) (u := D_is_poly)).trans ?_
  show (D_is_poly [.val (.lst (as.map PV.int)), .un]).res = _
  have ln : lenP [.lst (as.map PV.int)] = .ok (.int as.length) := by simp
  have il : isiP "list" (.lst (as.map PV.int)) = .ok (.bl true) := by
    have e : kitB "list" "list" = some true := by decide +kernel
    unfold isiP tyN
    rw [e]
  have L := eLc_ok (vs := [1]) (it := iS (eV 0)) (ρ := [.val (.lst (as.map PV.int)), .un]) (items := as.map PV.int) rfl (by simp) (by simp; omega) (whole_lc as (.lst (as.map PV.int)))
  have al : allP [.lst ((as.map fun _ => true).map PV.bl)] = .ok (.bl true) := by rw [allP_bl, show (as.map fun _ => true).all id = true by simp]
  obtain ⟨l, x, rfl⟩ : ∃ l x, as = l ++ [x] := ⟨as.dropLast, as.getLast (by intro z; rw [z] at h2; simp at h2), (List.dropLast_concat_getLast _).symm⟩
  have lx : ixP (.lst ((l ++ [x]).map PV.int)) (.int (-1)) = .ok (.int x) := by rw [List.map_append]; exact ixP_last _ _
  have c1 : ¬ (((l ++ [x]).length : Int) < 2) := by omega
  have c2 : ¬ ((9 : Int) < ((l ++ [x]).length : Int)) := by omega
  unfold D_is_poly
  refine skp (by simp only [tOr_eq, tNt_eq, tB1_eq, e1_eq, e2_eq, eD_eq, aCons_eq, aNil_eq, eC_eq, eVo0, bind1, il, ln, asB_eq, Bool.not_true, if_neg Bool.false_ne_true, ltP_ii, gtP_ii, decide_eq_false c1, gt_iff_lt, decide_eq_false c2]) ?_
  simp only [bSeq_eq, sRet_eq, eAn_eq, eD_eq, aCons_eq, aNil_eq, L, bind1, al, asB_eq, if_true, e2_eq, e1_eq, eC_eq, eVo0, negP_eq, lx, neP_ii, st_ok, then_ret, res_ret]
  congr 2
  rw [List.getLast?_append]
  simp [bne]
  rw [Bool.eq_iff_iff, beq_iff_eq, decide_eq_true_eq]
theorem f_is_poly_ok {as : List Int} (h : PolyI as) : F_is_poly [.lst (as.map PV.int)] = .ok (.bl true) := by rw [f_is_poly_i as h.1 h.2.1, decide_eq_true h.2.2]
theorem f_want_poly_ok {x : PV} (h : F_is_poly [x] = .ok (.bl true)) : F_want_poly [x] = .ok .non := by
  refine (runF_eq (n := 1) (u := D_want_poly)).trans ?_
  show (D_want_poly [.val x]).res = _
  simp [D_want_poly, h]
theorem f_want_poly_no {x : PV} (h : F_is_poly [x] = .ok (.bl false)) : F_want_poly [x] = .exc "NoPolynomial" := by
  refine (runF_eq (n := 1) (u := D_want_poly)).trans ?_
  show (D_want_poly [.val x]).res = _
  simp [D_want_poly, h]
abbrev Pt := Int × Int
theorem enum_len (as : List Int) (n : Nat) : (enumL n (as.map PV.int)).length = as.length := by rw [enumL_len, List.length_map]
def Abv (q a b : Pt) : Prop := (b.2 - a.2) * (q.1 - a.1) ≤ (q.2 - a.2) * (b.1 - a.1)
def Rises (a b c : Pt) : Prop := (b.2 - a.2) * (c.1 - b.1) < (c.2 - b.2) * (b.1 - a.1)
/-- the stack, its last point first, of a list of points -/
def Cv (S : List Pt) : List Pt → Prop
  | [] => True
  | [a] => a ∈ S
  | b :: a :: r => b ∈ S ∧ a.1 < b.1 ∧ (∀ q ∈ S, a.1 ≤ q.1 → q.1 ≤ b.1 → Abv q a b) ∧ (∀ z, r.head? = some z → Rises z a b) ∧ Cv S (a :: r)
theorem Cv.mem {S : List Pt} : ∀ {s : List Pt}, Cv S s → ∀ q ∈ s, q ∈ S
  | [], _, _, h => nomatch h
  | [a], h, q, hq => by rw [List.mem_singleton.mp hq]; exact h
  | b :: a :: r, h, q, hq => by
    rcases List.mem_cons.mp hq with rfl | hq
    · exact h.1
    · exact Cv.mem h.2.2.2.2 q hq
end PM
set_option Elab.async false
set_option linter.all false
set_option maxRecDepth 100000
set_option autoImplicit false
set_option exponentiation.threshold 20000
namespace PM
open PySem PySem.Spec L2 PL
open PyProof.Rows hiding St
theorem sqN {c k : Rho → Out} {ρ ρ' : Rho} {o : Out} (h : c ρ = .next ρ') (g : k ρ' = o) : bSeq c k ρ = o := by rw [bSeq_eq, h, then_next]; exact g
theorem sqS {i : Nat} {f : Rho → R PV} {k : Rho → Out} {ρ : Rho} (p : PV) {o : Out} (h : f ρ = .ok p) (g : k (ρ.set i (.val p)) = o) : bSeq (sSet i f) k ρ = o := sqN (by rw [sSet_eq, h, st_ok]) g
theorem sqK {t : Rho → R Bool} {u k : Rho → Out} {ρ : Rho} {o : Out} (h : t ρ = .ok false) (g : k ρ = o) : bSeq (sIf t u bNil) k ρ = o := sqN (by rw [sIf_eq, h, stB_ok, if_neg Bool.false_ne_true, bNil_eq]) g
theorem sqF {it : Rho → R (List PV)} {tgt : PV → Rho → Option Rho} {body k : Rho → Out} {ρ ρ' : Rho} {o : Out} (items : List PV) (hi : it ρ = .ok items) (hf : forL tgt body items ρ = .next ρ') (g : k ρ' = o) : bSeq (sFor it tgt body) k ρ = o := sqN (by rw [sFor_eq, hi, stL_ok, hf]) g
theorem rngDn_zero (lo : Int) : rngDn lo 0 = [] := rfl
theorem rngDn_succ (lo : Int) (n : Nat) : rngDn lo (n + 1) = .int lo :: rngDn (lo - 1) n := by
  unfold rngDn
  rw [List.range_succ_eq_map, List.map_cons, List.map_map]
  congr 1
  · congr 1; omega
  · refine List.map_congr_left fun i _ => ?_
    show PV.int (lo - ((i + 1 : Nat) : Int)) = _
    congr 1; omega
theorem rev_at1 (pre r : List Pt) (a b : Pt) : (pre ++ b :: a :: r).reverse[r.length + 1]? = some b := by
  rw [List.reverse_append, List.reverse_cons, List.reverse_cons, List.append_assoc, List.append_assoc, List.getElem?_append_right (by simp)]
  simp
theorem rev_at0 (pre r : List Pt) (a b : Pt) : (pre ++ b :: a :: r).reverse[r.length]? = some a := by
  rw [List.reverse_append, List.reverse_cons, List.reverse_cons, List.append_assoc, List.append_assoc, List.getElem?_append_right (by simp)]
  simp
theorem vp_le {p a : Int} (hp : 2 ≤ p) (h : a ≠ 0) {m : Nat} (hm : a.natAbs < 2 ^ m) : 0 ≤ vp p a ∧ vp p a < m := by
  obtain ⟨c, v, e, hc, hv⟩ := vp_spec hp h
  have hc0 : c ≠ 0 := fun z => by rw [z] at hc; simp at hc
  rw [hv]
  refine ⟨by omega, ?_⟩
  have h1 : (2 : Int).natAbs ^ v ≤ a.natAbs := by
    rw [e, Int.natAbs_mul, Int.natAbs_pow]
    calc (2 : Int).natAbs ^ v ≤ p.natAbs ^ v := Nat.pow_le_pow_left (by omega) v
      _ = 1 * p.natAbs ^ v := by rw [Nat.one_mul]
      _ ≤ c.natAbs * p.natAbs ^ v := Nat.mul_le_mul_right _ (by omega)
  have h2 : 2 ^ v < 2 ^ m := by
    have : (2 : Int).natAbs = 2 := rfl
    rw [this] at h1
    omega
  have := (Nat.pow_lt_pow_iff_right (by omega : 1 < 2)).mp h2
  omega
theorem Cv.at {S : List Pt} : ∀ {s : List Pt}, Cv S s → ∀ k, k + 1 < s.length → ∃ a c, s.reverse[k]? = some a ∧ s.reverse[k + 1]? = some c ∧ a.1 < c.1 ∧ c ∈ S ∧ a ∈ S ∧ (∀ q ∈ S, a.1 ≤ q.1 → q.1 ≤ c.1 → Abv q a c) ∧ (∀ z, 1 ≤ k → s.reverse[k - 1]? = some z → Rises z a c)
  | [], _, k, hk => by simp at hk
  | [_], _, k, hk => by simp at hk
  | b :: a :: r, h, k, hk => by
    rw [List.length_cons, List.length_cons] at hk
    by_cases e : k + 1 < (a :: r).length
    · obtain ⟨x, y, h1, h2, h3⟩ := Cv.at h.2.2.2.2 k e
      have l : (a :: r).reverse.length = r.length + 1 := by rw [List.length_reverse, List.length_cons]
      rw [List.length_cons] at e
      refine ⟨x, y, by rw [List.reverse_cons, List.getElem?_append_left (by omega)]; exact h1, by rw [List.reverse_cons, List.getElem?_append_left (by omega)]; exact h2, h3.1, h3.2.1, h3.2.2.1, h3.2.2.2.1, fun z k1 hz => h3.2.2.2.2 z k1 ?_⟩
      rw [List.reverse_cons, List.getElem?_append_left (by omega)] at hz
      exact hz
    · rw [List.length_cons] at e
      have e' : k = r.length := by omega
      subst e'
      refine ⟨a, b, rev_at0 [] r a b, rev_at1 [] r a b, h.2.1, h.1, Cv.mem h.2.2.2.2 a List.mem_cons_self, h.2.2.1, fun z k1 hz => h.2.2.2.1 z ?_⟩
      cases r with
      | nil => simp at k1
      | cons w r =>
        have := rev_at0 [b] r w a
        rw [show (b :: a :: w :: r).reverse = ([b] ++ a :: w :: r).reverse from rfl] at hz
        rw [List.length_cons, show r.length + 1 - 1 = r.length by omega, this] at hz
        exact hz
end PM
set_option Elab.async false
set_option linter.all false
set_option maxRecDepth 100000
set_option autoImplicit false
set_option exponentiation.threshold 20000
namespace PM
open PySem PySem.Spec L2 PL
open PyProof.Rows hiding St
noncomputable def vn (p : Int) (n : Nat) : Nat := (vp p n).toNat
theorem vn_spec {p : Int} (hp : 2 ≤ p) {n : Nat} (hn : 1 ≤ n) : ∃ m : Int, (n : Int) = m * p ^ vn p n ∧ m % p ≠ 0 ∧ 1 ≤ m ∧ vp p n = vn p n := by
  obtain ⟨m, v, h1, h2, h3⟩ := vp_spec hp (show (n : Int) ≠ 0 by omega)
  have e : vn p n = v := by unfold vn; rw [h3]; rfl
  have P : 0 < p ^ v := Int.pow_pos (by omega)
  refine ⟨m, by rw [e]; exact h1, h2, ?_, by rw [e]; exact h3⟩
  rcases Int.lt_or_le m 1 with g | g
  · have := Int.mul_le_mul_of_nonneg_right (show m ≤ 0 by omega) (show 0 ≤ p ^ v by omega)
    rw [Int.zero_mul] at this
    omega
  · exact g
theorem vn_uniq {p m : Int} {n v : Nat} (hp : 2 ≤ p) (hn : 1 ≤ n) (h : (n : Int) = m * p ^ v) (hm : m % p ≠ 0) : vn p n = v := by
  obtain ⟨m', h1, h2, _, _⟩ := vn_spec hp hn
  exact (vp_uniq hp (h.symm.trans h1) hm h2).symm
theorem vn_zero {p : Int} {n : Nat} (hp : 2 ≤ p) (hn : 1 ≤ n) (h : (n : Int) % p ≠ 0) : vn p n = 0 := vn_uniq (m := n) hp hn (by simp) h
/-- the figures' sum by a prime: what the factorials lack -/
def dsum (p : Nat) : Nat → Nat → Nat
  | 0, _ => 0
  | f + 1, n => n % p + dsum p f (n / p)
noncomputable def wf (p : Int) : Nat → Nat
  | 0 => 0
  | n + 1 => wf p n + vn p (n + 1)
theorem dsum_0 (p : Nat) : ∀ f : Nat, dsum p f 0 = 0
  | 0 => rfl
  | f + 1 => by rw [dsum, Nat.zero_mod, Nat.zero_div, Nat.zero_add, dsum_0 p f]
theorem dsum_fuel {p : Nat} (hp : 2 ≤ p) : ∀ (f g n : Nat), n ≤ f → n ≤ g → dsum p f n = dsum p g n
  | 0, g, n, h, _ => by
    have e : n = 0 := by omega
    subst e
    rw [dsum_0, dsum_0]
  | f + 1, 0, n, _, h => by
    have e : n = 0 := by omega
    subst e
    rw [dsum_0, dsum_0]
  | f + 1, g + 1, n, h1, h2 => by
    rw [dsum, dsum]
    have : n / p ≤ n / 2 := Nat.div_le_div_left hp (by omega)
    rw [dsum_fuel hp f g (n / p) (by omega) (by omega)]
theorem vn_dsum {p : Nat} (hp : 2 ≤ p) : ∀ (f n : Nat), n + 1 ≤ f → (p - 1) * vn p (n + 1) + dsum p f (n + 1) = 1 + dsum p f n
  | 0, _, h => by omega
  | f + 1, n, h => by
    by_cases c : (n + 1) % p = 0
    · obtain ⟨j, hj⟩ : ∃ j, n + 1 = p * j := ⟨(n + 1) / p, by have := Nat.div_add_mod (n + 1) p; omega⟩
      have j0 : j ≠ 0 := fun z => by rw [z] at hj; omega
      obtain ⟨i, rfl⟩ : ∃ i, j = i + 1 := ⟨j - 1, by omega⟩
      have hn : n = p * i + (p - 1) := by rw [Nat.mul_add] at hj; omega
      have d1 : (n + 1) / p = i + 1 := by rw [hj]; exact Nat.mul_div_cancel_left _ (by omega)
      have d2 : n / p = i := by rw [hn, Nat.mul_add_div (by omega), Nat.div_eq_of_lt (by omega)]; omega
      have m2 : n % p = p - 1 := by rw [hn, Nat.mul_add_mod, Nat.mod_eq_of_lt (by omega)]
      have il : i + 1 ≤ f := by
        have : 2 * (i + 1) ≤ p * (i + 1) := Nat.mul_le_mul_right _ hp
        omega
      have ih := vn_dsum hp f i il
      obtain ⟨m, h1, h2, _, _⟩ := vn_spec (p := (p : Int)) (by omega) (show 1 ≤ i + 1 by omega)
      have e : vn p (n + 1) = vn p (i + 1) + 1 := vn_uniq (m := m) (by omega) (by omega) (by rw [hj, Int.natCast_mul, h1, Int.pow_succ]; grind) h2
      rw [dsum, dsum, c, d1, d2, m2, e, Nat.mul_add]
      omega
    · have hv : vn p (n + 1) = 0 := vn_zero (by omega) (by omega) (by omega)
      have hp0 : 0 < p := by omega
      have dm := Nat.div_add_mod n p
      have lt := Nat.mod_lt n hp0
      have e1 : n % p + 1 < p := by
        rcases Nat.lt_or_ge (n % p + 1) p with g | g
        · exact g
        · exfalso
          have : n + 1 = p * (n / p + 1) := by rw [Nat.mul_add]; omega
          rw [this] at c
          exact c (Nat.mul_mod_right _ _)
      have e2 : n + 1 = p * (n / p) + (n % p + 1) := by omega
      have d1 : (n + 1) / p = n / p := by
        conv => lhs; rw [e2]
        rw [Nat.mul_add_div hp0, Nat.div_eq_of_lt e1]; omega
      have d2 : (n + 1) % p = n % p + 1 := by
        conv => lhs; rw [e2]
        rw [Nat.mul_add_mod, Nat.mod_eq_of_lt e1]
      rw [dsum, dsum, hv, d1, d2]
      omega
theorem wf_dsum {p : Nat} (hp : 2 ≤ p) (f : Nat) : ∀ n : Nat, n ≤ f → (p - 1) * wf p n + dsum p f n = n
  | 0, _ => by
    have := dsum_fuel hp f 0 0 (by omega) (by omega)
    rw [wf, Nat.mul_zero, this]; rfl
  | n + 1, h => by
    have ih := wf_dsum hp f n (by omega)
    have s := vn_dsum hp f n h
    rw [wf, Nat.mul_add]
    omega
theorem dsum_pos {p : Nat} (hp : 2 ≤ p) : ∀ (f n : Nat), n ≤ f → 1 ≤ n → 1 ≤ dsum p f n
  | 0, n, h, h2 => by omega
  | f + 1, n, h, h2 => by
    rw [dsum]
    by_cases c : n % p = 0
    · have : n / p ≤ n / 2 := Nat.div_le_div_left hp (by omega)
      have d := Nat.div_add_mod n p
      have : 1 ≤ n / p := by
        rcases Nat.eq_zero_or_pos (n / p) with g | g
        · rw [g] at d; omega
        · exact g
      have := dsum_pos hp f (n / p) (by omega) this
      omega
    · omega
theorem wf_lt {p : Int} (hp : 2 ≤ p) (n : Nat) (hn : 1 ≤ n) : (p - 1) * (wf p n : Int) ≤ n - 1 := by
  obtain ⟨q, rfl⟩ : ∃ q : Nat, p = q := ⟨p.toNat, by omega⟩
  have h1 := wf_dsum (p := q) (by omega) n n (Nat.le_refl _)
  have h2 := dsum_pos (p := q) (by omega) n n (Nat.le_refl _) hn
  have e : ((q - 1 : Nat) : Int) = (q : Int) - 1 := by omega
  have h3 : ((q - 1 : Nat) : Int) * (wf q n : Int) = (((q - 1) * wf q n : Nat) : Int) := by rw [Int.natCast_mul]
  rw [← e, h3]
  omega
theorem wf_le {p : Int} (hp : 2 ≤ p) (n : Nat) (hn : 1 ≤ n) : wf p n + 1 ≤ n := by
  have h := wf_lt hp n hn
  have : 1 * (wf p n : Int) ≤ (p - 1) * (wf p n : Int) := Int.mul_le_mul_of_nonneg_right (by omega) (by omega)
  omega
end PM
set_option Elab.async false
set_option linter.all false
set_option maxRecDepth 100000
set_option autoImplicit false
set_option exponentiation.threshold 20000
namespace PM
open PySem PySem.Spec L2 PL
open PyProof.Rows hiding St
theorem mo_iff {m x y : Int} : Mo m x y ↔ m ∣ x - y := by
  constructor
  · rintro ⟨z, h⟩; exact ⟨z, by omega⟩
  · rintro ⟨z, h⟩; exact ⟨z, by omega⟩
theorem Mo.canc {p m a b : Int} (hp : p ∈ primesL) (hm : m % p ≠ 0) {E v : Nat} (h : Mo (p ^ (E + v)) (m * p ^ v * a) (m * p ^ v * b)) : Mo (p ^ E) a b := by
  have hpb := primesL_le p hp
  have P : p ^ v ≠ 0 := Int.pow_ne_zero (by omega)
  rw [mo_iff] at h ⊢
  obtain ⟨z, hz⟩ := h
  have e : m * (a - b) = p ^ E * z := by
    rw [Int.pow_add] at hz
    refine Int.eq_of_mul_eq_mul_left P ?_
    grind
  have g : Int.gcd (p ^ E) m = 1 := by rw [Int.gcd_comm]; exact prime_gcd hp hm E
  have d : (p ^ E).natAbs ∣ m.natAbs * (a - b).natAbs := by rw [← Int.natAbs_mul]; exact Int.natAbs_dvd_natAbs.mpr ⟨z, e⟩
  exact Int.natAbs_dvd_natAbs.mp (Nat.Coprime.dvd_of_dvd_mul_left g d)
theorem pow_mo0 {p x : Int} {s : Nat} (h : Mo (p ^ s) x 0) (k : Nat) : Mo (p ^ (s * k)) (x ^ k) 0 := by
  obtain ⟨z, hz⟩ := h
  refine ⟨z ^ k, ?_⟩
  rw [hz, Int.zero_add, Int.mul_pow, Int.pow_mul, Int.zero_add]
def fac : Nat → Int
  | 0 => 1
  | n + 1 => fac n * ((n + 1 : Nat) : Int)
noncomputable def mfc (p : Int) : Nat → Int
  | 0 => 1
  | n + 1 => mfc p n * (((n + 1 : Nat) : Int) / p ^ vn p (n + 1))
theorem vn_div {p : Int} (hp : 2 ≤ p) {n : Nat} (hn : 1 ≤ n) : (n : Int) = (n : Int) / p ^ vn p n * p ^ vn p n ∧ ((n : Int) / p ^ vn p n) % p ≠ 0 ∧ 1 ≤ (n : Int) / p ^ vn p n ∧ (n : Int) / p ^ vn p n ≤ n := by
  obtain ⟨m, h1, h2, h3, _⟩ := vn_spec hp hn
  have P : 0 < p ^ vn p n := Int.pow_pos (by omega)
  have e : (n : Int) / p ^ vn p n = m := by
    conv => lhs; rw [h1]
    exact Int.mul_ediv_cancel _ (by omega)
  rw [e]
  refine ⟨h1, h2, h3, ?_⟩
  have := Int.mul_le_mul_of_nonneg_left (show 1 ≤ p ^ vn p n by omega) (show 0 ≤ m by omega)
  omega
theorem mfc_spec {p : Int} (hp : p ∈ primesL) : ∀ n : Nat, fac n = mfc p n * p ^ wf p n ∧ mfc p n % p ≠ 0
  | 0 => by
    have hpb := primesL_le p hp
    refine ⟨by simp [fac, mfc, wf], ?_⟩
    rw [mfc, Int.emod_eq_of_lt (by omega) (by omega)]; decide
  | n + 1 => by
    have hpb := primesL_le p hp
    obtain ⟨h1, h2⟩ := mfc_spec hp n
    obtain ⟨g1, g2, _⟩ := vn_div hpb.1 (show 1 ≤ n + 1 by omega)
    refine ⟨?_, prime_mulI hp h2 g2⟩
    rw [fac, h1, mfc, wf, Int.pow_add]
    conv => lhs; rw [g1]
    grind
def sms (q : Nat → Int) : Nat → Int
  | 0 => q 0
  | n + 1 => sms q n + q (n + 1)
def LgQ (p : Int) (E : Nat) (x : Int) (q : Nat → Int) (N : Nat) : Prop := ∀ k : Nat, 1 ≤ k → k ≤ N → Mo (p ^ (E + vn p k)) (k * q k) (x ^ k)
def ExQ (p : Int) (E : Nat) (x : Int) (q : Nat → Int) (N : Nat) : Prop := ∀ k : Nat, k ≤ N → Mo (p ^ (E + wf p k)) (fac k * q k) (x ^ k)
noncomputable def trn (a w : Int) : Int := match F_turned [.int a, .int w] with | .ok (.int z) => z | _ => 0
noncomputable def ep (p : Int) (n : Nat) (u : Int) : Nat → Int
  | 0 => 1
  | k + 1 => ep p n u k * u * trn (((k + 1 : Nat) : Int) / p ^ vn p (k + 1)) (p ^ n) % p ^ n
noncomputable def er (p : Int) (s k : Nat) : Nat := k * s - wf p k
noncomputable def ee (p : Int) (n : Nat) (u : Int) (s : Nat) (k : Nat) : Int := if k = 0 then 1 else if er p s k < n then ep p n u k * p ^ er p s k else 0
end PM
set_option Elab.async false
set_option linter.all false
set_option maxRecDepth 100000
set_option autoImplicit false
set_option exponentiation.threshold 20000
namespace PM
theorem Mo.zero {m x : Int} (z : Int) (h : x = m * z) : Mo m x 0 := ⟨z, by rw [h, Int.zero_add]⟩
theorem Mo.scaleP {p X Y c : Int} {a b : Nat} (h : Mo (p ^ a) X Y) (hc : Mo (p ^ b) c 0) : Mo (p ^ (a + b)) (X * c) (Y * c) := by
  obtain ⟨z, hz⟩ := h
  obtain ⟨w, hw⟩ := hc
  exact ⟨z * w, by rw [hz, hw, Int.pow_add]; grind⟩
theorem Mo.zeroP {p X c : Int} {a b : Nat} (h : Mo (p ^ a) X 0) (hc : Mo (p ^ b) c 0) : Mo (p ^ (a + b)) (X * c) 0 := by
  have := Mo.scaleP h hc
  rwa [Int.zero_mul] at this
theorem Mo.zero_mul {m X : Int} (c : Int) (h : Mo m X 0) : Mo m (X * c) 0 := by
  obtain ⟨z, hz⟩ := h
  exact ⟨z * c, by rw [hz]; grind⟩
theorem sms_tail {W : Int} {q : Nat → Int} {M : Nat} : ∀ N : Nat, M ≤ N → (∀ k, M < k → k ≤ N → Mo W (q k) 0) → Mo W (sms q N) (sms q M)
  | 0, h, _ => by
    have e : M = 0 := by omega
    subst e; exact .refl _ _
  | N + 1, h, t => by
    by_cases e : M = N + 1
    · subst e; exact .refl _ _
    · have ih := sms_tail N (by omega) fun k h1 h2 => t k h1 (by omega)
      rw [sms]
      exact (ih.add (t (N + 1) (by omega) (by omega))).trans (.of_eq (Int.add_zero _))
section
variable {p x : Int} {E : Nat}
theorem ex_tail (hp : p ∈ primesL) {e : Nat → Int} {N s k : Nat} (h : ExQ p E x e N) (hx : Mo (p ^ s) x 0) (hN : k ≤ N) (hs : E + wf p k ≤ s * k) : Mo (p ^ E) (e k) 0 := by
  obtain ⟨f1, f2⟩ := mfc_spec hp k
  have a := (h k hN).trans ((pow_mo0 hx k).low hs)
  refine Mo.canc hp f2 (v := wf p k) ?_
  rw [← f1, Int.mul_zero]; exact a
end
theorem LgQ.low {p x : Int} {E F N : Nat} {q : Nat → Int} (h : LgQ p E x q N) (hF : F ≤ E) : LgQ p F x q N := fun k h1 h2 => (h k h1 h2).low (by omega)
theorem ExQ.low {p x : Int} {E F N : Nat} {q : Nat → Int} (h : ExQ p E x q N) (hF : F ≤ E) : ExQ p F x q N := fun k h2 => (h k h2).low (by omega)
end PM
set_option Elab.async false
set_option linter.all false
set_option maxRecDepth 100000
set_option autoImplicit false
set_option exponentiation.threshold 20000
namespace PM
def cb : Nat → Nat → Int
  | _, 0 => 1
  | 0, _ + 1 => 0
  | n + 1, k + 1 => cb n k + cb n (k + 1)
theorem cb_zero (n : Nat) : cb n 0 = 1 := by cases n <;> rfl
theorem cb_step (n k : Nat) : cb (n + 1) (k + 1) = cb n k + cb n (k + 1) := rfl
theorem cb_abs : ∀ n k : Nat, ((k + 1 : Nat) : Int) * cb (n + 1) (k + 1) = ((n + 1 : Nat) : Int) * cb n k
  | 0, 0 => by rw [cb_step, cb_zero]; rfl
  | 0, k + 1 => by rw [cb_step]; show ((k + 1 + 1 : Nat) : Int) * (0 + 0) = ((0 + 1 : Nat) : Int) * 0; omega
  | n + 1, 0 => by
    have h := cb_abs n 0
    rw [cb_step (n + 1) 0, cb_zero]
    rw [cb_zero] at h
    have e : ((0 + 1 : Nat) : Int) = 1 := rfl
    rw [e] at h ⊢
    have e2 : ((n + 1 + 1 : Nat) : Int) = ((n + 1 : Nat) : Int) + 1 := by omega
    rw [e2]
    grind
  | n + 1, k + 1 => by
    have h1 := cb_abs n (k + 1)
    have h0 := cb_abs n k
    have s := cb_step (n + 1) (k + 1)
    have t := cb_step n k
    have e1 : ((k + 1 + 1 : Nat) : Int) = ((k + 1 : Nat) : Int) + 1 := by omega
    have e2 : ((n + 1 + 1 : Nat) : Int) = ((n + 1 : Nat) : Int) + 1 := by omega
    rw [e1] at h1
    rw [s, e1, e2]
    obtain ⟨a, ha⟩ : ∃ a, a = ((k + 1 : Nat) : Int) := ⟨_, rfl⟩
    obtain ⟨b, hb⟩ : ∃ b, b = ((n + 1 : Nat) : Int) := ⟨_, rfl⟩
    rw [← ha, ← hb] at h1 h0 ⊢
    grind
theorem cb_big : ∀ n k : Nat, n < k → cb n k = 0
  | _, 0, h => by omega
  | 0, k + 1, _ => rfl
  | n + 1, k + 1, h => by rw [cb_step, cb_big n k (by omega), cb_big n (k + 1) (by omega)]; rfl
def Lg (p : Int) (E : Nat) (x T : Int) : Prop := ∃ K0 : Nat, ∀ K : Nat, K0 ≤ K → Mo (p ^ (E + K)) (p ^ K * T) ((1 + x) ^ (p.toNat ^ K) - 1)
theorem Lg.low {p x T : Int} {E F : Nat} (h : Lg p E x T) (hF : F ≤ E) : Lg p F x T := by
  obtain ⟨K0, h⟩ := h
  exact ⟨K0, fun K hK => (h K hK).low (by omega)⟩
theorem Lg.mul {p x y T S : Int} {E : Nat} (h : Lg p E x T) (g : Lg p E y S) : Lg p E (x + y + x * y) (T + S) := by
  obtain ⟨K0, h⟩ := h
  obtain ⟨K1, g⟩ := g
  refine ⟨E + K0 + K1, fun K hK => ?_⟩
  have h := h K (by omega)
  have g := g K (by omega)
  obtain ⟨X, hX⟩ : ∃ X, X = (1 + x) ^ (p.toNat ^ K) - 1 := ⟨_, rfl⟩
  obtain ⟨Y, hY⟩ : ∃ Y, Y = (1 + y) ^ (p.toNat ^ K) - 1 := ⟨_, rfl⟩
  have e : (1 + (x + y + x * y)) ^ (p.toNat ^ K) - 1 = X + Y + X * Y := by
    have e1 : 1 + (x + y + x * y) = (1 + x) * (1 + y) := by grind
    rw [e1, Int.mul_pow, hX, hY]
    grind
  rw [← hX] at h
  rw [← hY] at g
  rw [e]
  have z : Mo (p ^ (E + K)) (X * Y) 0 := by
    have x0 : Mo (p ^ K) X 0 := (h.symm.low (by omega)).trans (Mo.zero T rfl)
    have y0 : Mo (p ^ K) Y 0 := (g.symm.low (by omega)).trans (Mo.zero S rfl)
    exact (Mo.zeroP x0 y0).low (by omega)
  have s := (h.add g).add z.symm
  exact (Mo.of_eq (by grind)).trans s
end PM
set_option Elab.async false
set_option linter.all false
set_option maxRecDepth 100000
set_option autoImplicit false
set_option exponentiation.threshold 20000
namespace PM
open PySem PySem.Spec L2 PL
open PyProof.Rows hiding St
theorem sms_front (f : Nat → Int) : ∀ M : Nat, sms f (M + 1) = f 0 + sms (fun i => f (i + 1)) M
  | 0 => rfl
  | M + 1 => by
    have ih := sms_front f M
    rw [show sms f (M + 1 + 1) = sms f (M + 1) + f (M + 1 + 1) from rfl, ih]
    show f 0 + sms (fun i => f (i + 1)) M + f (M + 1 + 1) = f 0 + (sms (fun i => f (i + 1)) M + f (M + 1 + 1))
    omega
theorem sms_add (f g : Nat → Int) : ∀ M : Nat, sms (fun i => f i + g i) M = sms f M + sms g M
  | 0 => rfl
  | M + 1 => by
    have ih := sms_add f g M
    show sms (fun i => f i + g i) M + (f (M + 1) + g (M + 1)) = sms f M + f (M + 1) + (sms g M + g (M + 1))
    omega
theorem sms_mul (c : Int) (f : Nat → Int) : ∀ M : Nat, sms (fun i => c * f i) M = c * sms f M
  | 0 => rfl
  | M + 1 => by
    have ih := sms_mul c f M
    show sms (fun i => c * f i) M + c * f (M + 1) = c * (sms f M + f (M + 1))
    rw [ih]; grind
theorem sms_ext {f g : Nat → Int} : ∀ M : Nat, (∀ i, i ≤ M → f i = g i) → sms f M = sms g M
  | 0, h => h 0 (Nat.le_refl _)
  | M + 1, h => by
    rw [sms, sms, sms_ext M fun i hi => h i (by omega), h (M + 1) (Nat.le_refl _)]
theorem sms_cong {W : Int} {f g : Nat → Int} : ∀ M : Nat, (∀ i, i ≤ M → Mo W (f i) (g i)) → Mo W (sms f M) (sms g M)
  | 0, h => h 0 (Nat.le_refl _)
  | M + 1, h => (sms_cong M fun i hi => h i (by omega)).add (h (M + 1) (Nat.le_refl _))
/-- a triangle of products, by rows and by columns -/
theorem tri (e f : Nat → Int) : ∀ N : Nat, sms (fun n => sms (fun i => e i * f (n - i)) n) N = sms (fun i => e i * sms f (N - i)) N
  | 0 => rfl
  | N + 1 => by
    have ih := tri e f N
    have e1 : sms (fun n => sms (fun i => e i * f (n - i)) n) (N + 1) = sms (fun n => sms (fun i => e i * f (n - i)) n) N + sms (fun i => e i * f (N + 1 - i)) (N + 1) := rfl
    have e2 : sms (fun i => e i * f (N + 1 - i)) (N + 1) = sms (fun i => e i * f (N + 1 - i)) N + e (N + 1) * f (N + 1 - (N + 1)) := rfl
    have e3 : sms (fun i => e i * sms f (N + 1 - i)) (N + 1) = sms (fun i => e i * sms f (N + 1 - i)) N + e (N + 1) * sms f (N + 1 - (N + 1)) := rfl
    have e4 : sms (fun i => e i * sms f (N + 1 - i)) N = sms (fun i => e i * sms f (N - i) + e i * f (N + 1 - i)) N := sms_ext N fun i hi => by
      rw [show N + 1 - i = (N - i) + 1 by omega, sms]; grind
    rw [e1, ih, e2, e3, e4, sms_add, Nat.sub_self]
    show _ = _ + e (N + 1) * f 0
    omega
theorem binom2 (y w : Int) : ∀ n M : Nat, n ≤ M → sms (fun i => cb n i * y ^ i * w ^ (M - i)) M = (y + w) ^ n * w ^ (M - n)
  | 0, M, _ => by
    cases M with
    | zero => show cb 0 0 * y ^ 0 * w ^ (0 - 0) = _; simp [cb_zero]
    | succ M =>
      rw [sms_front]
      have z : sms (fun i => cb 0 (i + 1) * y ^ (i + 1) * w ^ (M + 1 - (i + 1))) M = 0 := by
        have : sms (fun i => cb 0 (i + 1) * y ^ (i + 1) * w ^ (M + 1 - (i + 1))) M = sms (fun i => 0 * (0 : Int)) M := sms_ext M fun i _ => by rw [cb_big 0 (i + 1) (by omega)]; simp
        rw [this, sms_mul, Int.zero_mul]
      rw [z, cb_zero]; simp
  | n + 1, M, h => by
    obtain ⟨m, rfl⟩ : ∃ m, M = m + 1 := ⟨M - 1, by omega⟩
    have i1 := binom2 y w n (m + 1) (by omega)
    have i2 := binom2 y w n m (by omega)
    rw [sms_front] at i1 ⊢
    have e : sms (fun i => cb (n + 1) (i + 1) * y ^ (i + 1) * w ^ (m + 1 - (i + 1))) m = sms (fun i => cb n (i + 1) * y ^ (i + 1) * w ^ (m + 1 - (i + 1)) + y * (cb n i * y ^ i * w ^ (m - i))) m := sms_ext m fun i hi => by
      rw [cb_step, show m + 1 - (i + 1) = m - i by omega, Int.pow_succ]; grind
    rw [e, sms_add, sms_mul, i2]
    rw [cb_zero] at i1 ⊢
    rw [show m + 1 - n = (m - n) + 1 by omega, Int.pow_succ] at i1
    rw [show m + 1 - (n + 1) = m - n by omega, Int.pow_succ (y + w)]
    grind
theorem cb_fac : ∀ n k : Nat, k ≤ n → cb n k * fac k * fac (n - k) = fac n
  | n, 0, _ => by rw [cb_zero, fac, Nat.sub_zero]; omega
  | 0, k + 1, h => by omega
  | n + 1, k + 1, h => by
    have ih := cb_fac n k (by omega)
    have ab := cb_abs n k
    rw [show n + 1 - (k + 1) = n - k by omega, fac, fac, ← ih]
    grind
def Nr (p y : Int) : Prop := Mo (p ^ 1) y 0 ∧ (p = 2 → Mo (p ^ 2) y 0)
theorem Nr.add {p y w : Int} (h : Nr p y) (g : Nr p w) : Nr p (y + w) := by
  refine ⟨by have := h.1.add g.1; rwa [Int.add_zero] at this, fun e => by have := (h.2 e).add (g.2 e); rwa [Int.add_zero] at this⟩
theorem half {p y : Int} (hp : p ∈ primesL) (h : Nr p y) {E a i N : Nat} {e : Nat → Int} (he : ExQ p E y e N) (hi : i ≤ N) (ha : a ≤ E) (ha2 : a ≤ (i + 1) / 2) : Mo (p ^ a) (e i) 0 := by
  have hpb := primesL_le p hp
  by_cases i0 : i = 0
  · subst i0
    have : a = 0 := by omega
    subst this
    exact ⟨e 0, by simp⟩
  · have w := wf_le hpb.1 i (by omega)
    by_cases e2 : p = 2
    · exact ex_tail hp (he.low ha) (h.2 e2) hi (by omega)
    · refine ex_tail hp (he.low ha) h.1 hi ?_
      have w2 := wf_lt hpb.1 i (by omega)
      have : 2 * (wf p i : Int) ≤ (p - 1) * (wf p i : Int) := Int.mul_le_mul_of_nonneg_right (by omega) (by omega)
      omega
theorem wf_add {p : Int} (hp : p ∈ primesL) {n i : Nat} (hi : i ≤ n) : wf p i + wf p (n - i) ≤ wf p n := by
  have hpb := primesL_le p hp
  obtain ⟨a1, a2⟩ := mfc_spec hp i
  obtain ⟨b1, b2⟩ := mfc_spec hp (n - i)
  obtain ⟨c1, c2⟩ := mfc_spec hp n
  have cf := cb_fac n i hi
  rcases Nat.lt_or_ge (wf p n) (wf p i + wf p (n - i)) with g | g
  · exfalso
    obtain ⟨d, hd⟩ : ∃ d, wf p i + wf p (n - i) = wf p n + (d + 1) := ⟨wf p i + wf p (n - i) - wf p n - 1, by omega⟩
    have e : mfc p n * p ^ wf p n = cb n i * mfc p i * mfc p (n - i) * p ^ (d + 1) * p ^ wf p n := by
      rw [← c1, ← cf, a1, b1]
      have : p ^ wf p i * p ^ wf p (n - i) = p ^ wf p n * p ^ (d + 1) := by rw [← Int.pow_add, ← Int.pow_add, hd]
      grind
    have e2 := Int.eq_of_mul_eq_mul_right (Int.pow_ne_zero (show p ≠ 0 by omega)) e
    rw [e2, Int.pow_succ, ← Int.mul_assoc, Int.mul_emod_left] at c2
    exact c2 rfl
  · exact g
theorem cb_wf {p : Int} (hp : p ∈ primesL) {n i : Nat} (hi : i ≤ n) : Mo (p ^ (wf p n - (wf p i + wf p (n - i)))) (cb n i) 0 := by
  obtain ⟨a1, a2⟩ := mfc_spec hp i
  obtain ⟨b1, b2⟩ := mfc_spec hp (n - i)
  obtain ⟨c1, c2⟩ := mfc_spec hp n
  have cf := cb_fac n i hi
  have w := wf_add hp hi
  refine Mo.canc hp (prime_mulI hp a2 b2) (v := wf p i + wf p (n - i)) ?_
  rw [show wf p n - (wf p i + wf p (n - i)) + (wf p i + wf p (n - i)) = wf p n by omega, Int.mul_zero]
  refine Mo.zero (mfc p n) ?_
  have e : mfc p i * mfc p (n - i) * p ^ (wf p i + wf p (n - i)) * cb n i = cb n i * fac i * fac (n - i) := by rw [a1, b1, Int.pow_add]; grind
  rw [e, cf, c1, Int.mul_comm]
theorem nr_wf {p y : Int} (hp : p ∈ primesL) (h : Nr p y) (i : Nat) : Mo (p ^ wf p i) (y ^ i) 0 := by
  have hpb := primesL_le p hp
  have z := pow_mo0 h.1 i
  by_cases i0 : i = 0
  · subst i0; exact ⟨y ^ 0, by simp [wf]⟩
  · have w := wf_le hpb.1 i (by omega)
    exact z.low (by omega)
theorem conv {p y w : Int} (hp : p ∈ primesL) (hy : Nr p y) (hw : Nr p w) {E N : Nat} {e f : Nat → Int} (he : ExQ p E y e N) (hf : ExQ p E w f N) : ExQ p E (y + w) (fun n => sms (fun i => e i * f (n - i)) n) N := by
  intro n hn
  have b := binom2 y w n n (Nat.le_refl _)
  rw [Nat.sub_self, Int.pow_zero, Int.mul_one] at b
  rw [← b, ← sms_mul]
  refine sms_cong n fun i hi => ?_
  have cf := cb_fac n i hi
  have wa := wf_add hp hi
  have x1 := he i (by omega)
  have x2 := hf (n - i) (by omega)
  obtain ⟨b1, _⟩ := mfc_spec hp (n - i)
  have s1 := Mo.scaleP x1 (Mo.zero (m := p ^ wf p (n - i)) (mfc p (n - i) * f (n - i)) (show fac (n - i) * f (n - i) = _ by rw [b1]; grind))
  have s2 := Mo.scaleP x2 (nr_wf hp hy i)
  have s3 : Mo (p ^ (E + (wf p i + wf p (n - i)))) (fac i * e i * (fac (n - i) * f (n - i))) (y ^ i * w ^ (n - i)) := by
    rw [show E + wf p i + wf p (n - i) = E + (wf p i + wf p (n - i)) by omega] at s1
    rw [show E + wf p (n - i) + wf p i = E + (wf p i + wf p (n - i)) by omega] at s2
    exact s1.trans ((Mo.of_eq (Int.mul_comm _ _)).trans (s2.trans (.of_eq (Int.mul_comm _ _))))
  have s4 := Mo.scaleP s3 (cb_wf hp hi)
  rw [show E + (wf p i + wf p (n - i)) + (wf p n - (wf p i + wf p (n - i))) = E + wf p n by omega] at s4
  refine (Mo.of_eq ?_).trans (s4.trans (.of_eq (by grind)))
  rw [← cf]
  grind
def Ex (p : Int) (E : Nat) (y W : Int) : Prop := ∃ (e : Nat → Int), ExQ p E y e (2 * E + 1) ∧ Mo (p ^ E) W (sms e (2 * E + 1))
theorem Ex.low {p y W : Int} (hp : p ∈ primesL) (hy : Nr p y) {E F : Nat} (h : Ex p E y W) (hF : F ≤ E) : Ex p F y W := by
  obtain ⟨e, he, hW⟩ := h
  refine ⟨e, fun k hk => (he.low hF) k (by omega), (hW.low hF).trans ?_⟩
  exact sms_tail _ (by omega) fun k k1 k2 => half hp hy he k2 hF (by omega)
theorem Ex.add {p y w W Z : Int} (hp : p ∈ primesL) (hy : Nr p y) (hw : Nr p w) {E : Nat} (h : Ex p E y W) (g : Ex p E w Z) : Ex p E (y + w) (W * Z) := by
  obtain ⟨e, he, hW⟩ := h
  obtain ⟨f, hf, hZ⟩ := g
  obtain ⟨N, hN⟩ : ∃ N, N = 2 * E + 1 := ⟨_, rfl⟩
  rw [← hN] at he hW hf hZ
  refine ⟨_, by rw [← hN]; exact conv hp hy hw he hf, ?_⟩
  rw [← hN, tri]
  have s : Mo (p ^ E) (sms e N * sms f N) (sms (fun i => e i * sms f (N - i)) N) := by
    rw [Int.mul_comm, ← sms_mul]
    refine sms_cong N fun i hi => ?_
    rw [Int.mul_comm]
    obtain ⟨a, ha⟩ : ∃ a, a = min E ((i + 1) / 2) := ⟨_, rfl⟩
    have ea := half hp hy he hi (show a ≤ E by omega) (by omega)
    have ft : Mo (p ^ (E - a)) (sms f N) (sms f (N - i)) := sms_tail N (by omega) fun k k1 k2 => half hp hw hf k2 (by omega) (by omega)
    have t := Mo.scaleP ft ea
    rw [show E - a + a = E by omega] at t
    exact (Mo.of_eq (Int.mul_comm _ _)).trans (t.trans (.of_eq (Int.mul_comm _ _)))
  exact (hW.mul hZ).trans s
theorem Lg.inj {p x y T : Int} (hp : p ∈ primesL) (hx : Nr p x) (hy : Nr p y) {E : Nat} (h : Lg p E x T) (g : Lg p E y T) : Mo (p ^ E) x y := by
  have hpb := primesL_le p hp
  obtain ⟨K0, h⟩ := h
  obtain ⟨K1, g⟩ := g
  have e := (h (K0 + K1) (by omega)).symm.trans (g (K0 + K1) (by omega))
  obtain ⟨K, hK⟩ : ∃ K, K = K0 + K1 := ⟨_, rfl⟩
  rw [← hK] at e
  by_cases d0 : x - y = 0
  · exact .of_eq (by omega)
  obtain ⟨u, j, e1, e2, _⟩ := vp_spec hpb.1 d0
  rcases Nat.lt_or_ge j E with jE | jE
  · exfalso
    have near : ∀ s : Nat, Mo (p ^ s) (x - y) 0 → s ≤ j := fun s hs => by
      rcases Nat.lt_or_ge j s with g | g
      · exfalso
        obtain ⟨z, hz⟩ := hs
        rw [Int.zero_add, e1] at hz
        obtain ⟨d, hd⟩ : ∃ d, s = j + (d + 1) := ⟨s - j - 1, by omega⟩
        rw [hd, Int.pow_add] at hz
        have pj : p ^ j ≠ 0 := Int.pow_ne_zero (by omega)
        have : u = p ^ (d + 1) * z := Int.eq_of_mul_eq_mul_right pj (by rw [hz]; grind)
        rw [this, Int.pow_succ, Int.mul_assoc, Int.mul_comm p z, ← Int.mul_assoc, Int.mul_emod_left] at e2
        exact e2 rfl
      · exact g
    have j1 := near 1 (by have := hx.1.sub hy.1; rwa [Int.sub_self] at this)
    have j2 : p = 2 → 2 ≤ j := fun q => near 2 (by have := (hx.2 q).sub (hy.2 q); rwa [Int.sub_self] at this)
    have B1 : (1 + y) % p ≠ 0 := by
      obtain ⟨z, hz⟩ := hy.1
      rw [hz, Int.pow_succ, Int.pow_zero, Int.zero_add, Int.one_mul, Int.add_mul_emod_self_left, Int.emod_eq_of_lt (by omega) (by omega)]
      decide
    obtain ⟨y', q1, q2⟩ := lte_t hp B1 j u j1 j2 K
    have xe : 1 + x = 1 + y + p ^ j * u := by rw [Int.mul_comm]; omega
    rw [xe, q1] at e
    obtain ⟨z, hz⟩ := e
    have f : p ^ (j + K) * y' = p ^ (E + K) * z := by omega
    obtain ⟨d, hd⟩ : ∃ d, E + K = (j + K) + (d + 1) := ⟨E - j - 1, by omega⟩
    rw [hd, Int.pow_add p (j + K) (d + 1)] at f
    have pj : p ^ (j + K) ≠ 0 := Int.pow_ne_zero (by omega)
    have : y' = p ^ (d + 1) * z := Int.eq_of_mul_eq_mul_left pj (by rw [f]; grind)
    have q3 := q2 e2
    rw [this, Int.pow_succ, Int.mul_assoc, Int.mul_comm p z, ← Int.mul_assoc, Int.mul_emod_left] at q3
    exact q3 rfl
  · obtain ⟨d, rfl⟩ : ∃ d, j = E + d := ⟨j - E, by omega⟩
    refine ⟨u * p ^ d, ?_⟩
    rw [Int.pow_add] at e1
    have : u * (p ^ E * p ^ d) = p ^ E * (u * p ^ d) := by grind
    omega
end PM
set_option Elab.async false
set_option linter.all false
set_option maxRecDepth 100000
set_option autoImplicit false
set_option exponentiation.threshold 20000
namespace PM
open PySem PySem.Spec L2 PL
open PyProof.Rows hiding St
def slp : Nat → List Int → List Int
  | _, [] => []
  | n, a :: r => (n : Int) * a :: slp (n + 1) r
theorem slp_len : ∀ (l : List Int) (n : Nat), (slp n l).length = l.length
  | [], _ => rfl
  | a :: r, n => by rw [slp, List.length_cons, List.length_cons, slp_len r]
def at0 (l : List Int) (n : Nat) : Int := l.getD n 0
theorem at0_out {l : List Int} {n : Nat} (h : l.length ≤ n) : at0 l n = 0 := by unfold at0; rw [List.getD_eq_getElem?_getD, List.getElem?_eq_none h]; rfl
def prow (a b : List Int) (n : Nat) : Nat → Int
  | 0 => 0
  | k + 1 => prow a b n k + (if k ≤ n then at0 a k * at0 b (n - k) else 0)
/-- the product's numbers -/
def prodL (a b : List Int) : List Int := (List.range (a.length + b.length - 1)).map fun n => prow a b n a.length
theorem prodL_len (a b : List Int) : (prodL a b).length = a.length + b.length - 1 := by unfold prodL; rw [List.length_map, List.length_range]
theorem prodL_of {a b L : List Int} (hl : L.length = a.length + b.length - 1) (h : ∀ n, n < L.length → at0 L n = prow a b n a.length) : L = prodL a b := by
  refine List.ext_getElem? fun n => ?_
  rcases Nat.lt_or_ge n L.length with g | g
  · have e := h n g
    unfold at0 at e
    rw [List.getD_eq_getElem?_getD, List.getElem?_eq_getElem g, Option.getD_some] at e
    rw [List.getElem?_eq_getElem g, e]
    unfold prodL
    rw [List.getElem?_map, List.getElem?_range (by omega)]
    rfl
  · rw [List.getElem?_eq_none g, List.getElem?_eq_none (by rw [prodL_len]; omega)]
/-- the list while row k is added, up to its m-th number -/
def Part (a b L : List Int) (k m : Nat) : Prop := L.length = a.length + b.length - 1 ∧ ∀ n, n < L.length → at0 L n = prow a b n k + (if k ≤ n ∧ n - k < m then at0 a k * at0 b (n - k) else 0)
theorem Part.next {a b L : List Int} {k m : Nat} (h : Part a b L k m) (hk : k < a.length) (hm : m < b.length) : Part a b (L.set (k + m) (at0 L (k + m) + at0 a k * at0 b m)) k (m + 1) := by
  obtain ⟨h1, h2⟩ := h
  have kl : k + m < L.length := by omega
  refine ⟨by rw [List.length_set, h1], fun n hn => ?_⟩
  rw [List.length_set] at hn
  by_cases e : n = k + m
  · subst e
    have : at0 (L.set (k + m) (at0 L (k + m) + at0 a k * at0 b m)) (k + m) = at0 L (k + m) + at0 a k * at0 b m := by
      unfold at0
      rw [List.getD_eq_getElem?_getD, List.getElem?_set_self kl, Option.getD_some]
    rw [this, h2 _ kl, if_neg (by omega), if_pos (by omega), Int.add_zero, Nat.add_sub_cancel_left]
  · have : at0 (L.set (k + m) (at0 L (k + m) + at0 a k * at0 b m)) n = at0 L n := by
      unfold at0
      rw [List.getD_eq_getElem?_getD, List.getElem?_set_ne (fun z => e z.symm), ← List.getD_eq_getElem?_getD]
    rw [this, h2 n hn]
    congr 1
    by_cases q : k ≤ n ∧ n - k < m
    · rw [if_pos q, if_pos (by omega)]
    · rw [if_neg q, if_neg (by omega)]
theorem Part.row {a b L : List Int} {k : Nat} (h : Part a b L k b.length) : Part a b L (k + 1) 0 := by
  refine ⟨h.1, fun n hn => ?_⟩
  rw [h.2 n hn, prow]
  have z : ¬ (k + 1 ≤ n ∧ n - (k + 1) < 0) := by omega
  rw [if_neg z, Int.add_zero]
  congr 1
  by_cases q : k ≤ n
  · rw [if_pos q]
    by_cases w : n - k < b.length
    · rw [if_pos ⟨q, w⟩]
    · rw [if_neg (fun r => w r.2), at0_out (show b.length ≤ n - k by omega), Int.mul_zero]
  · rw [if_neg q, if_neg (fun r => q r.1)]
theorem Part.done {a b L : List Int} (h : Part a b L a.length 0) : L = prodL a b := prodL_of h.1 fun n hn => by rw [h.2 n hn, if_neg (by omega), Int.add_zero]
theorem part_zero (a b : List Int) (h : 1 ≤ a.length + b.length) : Part a b (List.replicate (a.length + b.length - 1) 0) 0 0 := by
  refine ⟨List.length_replicate .., fun n hn => ?_⟩
  rw [List.length_replicate] at hn
  unfold at0
  rw [List.getD_eq_getElem?_getD, List.getElem?_replicate, if_pos hn, prow, if_neg (by omega)]; rfl
theorem poly_no (x : PV) (h : isL x = false) : F_is_poly [x] = .ok (.bl false) := by
  refine (runF_eq (n := 2) (u := D_is_poly)).trans ?_
  show (D_is_poly [.val x, .un]).res = _
  simp [D_is_poly, isi_list, h]
theorem poly_bad (l : List PV) (h2 : 2 ≤ l.length) (h9 : l.length ≤ 9) (h : l.all isW = false) : F_is_poly [.lst l] = .ok (.bl false) := by
  refine (runF_eq (n := 2) (u := D_is_poly)).trans ?_
  show (D_is_poly [.val (.lst l), .un]).res = _
  have ln : lenP [.lst l] = .ok (.int l.length) := by simp
  have il : isiP "list" (.lst l) = .ok (.bl true) := by rw [isi_list]; rfl
  have go : lcGo (gN 1) cYes (eD F_is_whole (aCons (eV 1) aNil)) [.val (.lst l), .un] l = .ok (l.map fun q => PV.bl (isW q)) := by
    refine lcGo_map _ _ fun q hq => ⟨_, rfl, ?_⟩
    simp [f_is_whole]
  have L := eLc_ok (vs := [1]) (it := iS (eV 0)) (ρ := [.val (.lst l), .un]) (items := l) rfl (by simp) (by omega) go
  have al : allP [.lst (l.map fun q => PV.bl (isW q))] = .ok (.bl false) := by
    rw [show (l.map fun q => PV.bl (isW q)) = (l.map isW).map PV.bl by rw [List.map_map]; rfl, allP_bl, List.all_map]
    exact congrArg (fun b => R.ok (PV.bl b)) h
  have c1 : ¬ ((l.length : Int) < 2) := by omega
  have c2 : ¬ ((9 : Int) < (l.length : Int)) := by omega
  unfold D_is_poly
  refine skp (by simp only [tOr_eq, tNt_eq, tB1_eq, e1_eq, e2_eq, eD_eq, aCons_eq, aNil_eq, eC_eq, eVo0, bind1, il, ln, asB_eq, Bool.not_true, if_neg Bool.false_ne_true, ltP_ii, gtP_ii, decide_eq_false c1, gt_iff_lt, decide_eq_false c2]) ?_
  simp only [bSeq_eq, sRet_eq, eAn_eq, eD_eq, aCons_eq, aNil_eq, L, bind1, al, asB_eq, if_neg Bool.false_ne_true, st_ok, then_ret, res_ret]
end PM
set_option Elab.async false
set_option linter.all false
set_option maxRecDepth 100000
set_option autoImplicit false
set_option exponentiation.threshold 20000
namespace PM
def ev : List Int → Int → Int
  | [], _ => 0
  | c :: r, x => c + x * ev r x
def syn (d : Int) : List Int → List Int
  | [] => []
  | c :: r => (c + d * (syn d r).headD 0) :: syn d r
theorem syn_len (d : Int) : ∀ cs : List Int, (syn d cs).length = cs.length
  | [] => rfl
  | c :: r => by rw [syn, List.length_cons, List.length_cons, syn_len d r]
theorem ev_syn (d x : Int) : ∀ cs : List Int, ev cs x = (syn d cs).headD 0 + (x - d) * ev (syn d cs).tail x
  | [] => by simp [ev, syn]
  | c :: r => by
    have ih := ev_syn d x r
    rw [ev, syn, List.headD_cons, List.tail_cons, ih]
    have e : ev (syn d r) x = (syn d r).headD 0 + x * ev (syn d r).tail x := by
      cases syn d r with
      | nil => simp [ev]
      | cons a l => simp [ev]
    rw [e]
    grind
def shf (d : Int) : Nat → List Int → List Int
  | 0, cs => cs
  | n + 1, cs => match syn d cs with
    | [] => []
    | v :: q => v :: shf d n q
theorem shf_len (d : Int) : ∀ (n : Nat) (cs : List Int), (shf d n cs).length = cs.length
  | 0, _ => rfl
  | n + 1, cs => by
    have l := syn_len d cs
    rw [shf]
    cases h : syn d cs with
    | nil => rw [← l, h]
    | cons v q => rw [← l, h]; simp [shf_len d n q]
theorem ev_shf (d z : Int) : ∀ (n : Nat) (cs : List Int), cs.length ≤ n + 1 → ev (shf d n cs) z = ev cs (d + z)
  | 0, [], _ => rfl
  | 0, [c], _ => by simp [shf, ev]
  | 0, _ :: _ :: _, h => by simp at h
  | n + 1, cs, h => by
    have l := syn_len d cs
    have e := ev_syn d (d + z) cs
    rw [shf, e]
    cases hs : syn d cs with
    | nil => simp [ev]
    | cons v q =>
      rw [hs] at l
      have ih := ev_shf d z n q (by rw [List.length_cons] at l; omega)
      simp only [List.headD_cons, List.tail_cons, ev, ih]
      grind
/-- each number times a rising power -/
def scl (p : Int) : Int → List Int → List Int
  | _, [] => []
  | b, c :: r => c * b :: scl p (b * p) r
theorem scl_len (p : Int) : ∀ (b : Int) (cs : List Int), (scl p b cs).length = cs.length
  | _, [] => rfl
  | b, c :: r => by rw [scl, List.length_cons, List.length_cons, scl_len]
theorem ev_scl (p z : Int) : ∀ (b : Int) (cs : List Int), ev (scl p b cs) z = b * ev cs (p * z)
  | _, [] => by simp [scl, ev]
  | b, c :: r => by
    rw [scl, ev, ev, ev_scl p z (b * p) r]
    grind
theorem ev_mul (k z : Int) : ∀ cs : List Int, ev (cs.map fun c => k * c) z = k * ev cs z
  | [] => by simp [ev]
  | c :: r => by rw [List.map_cons, ev, ev, ev_mul k z r]; grind
/-- bounds -/
theorem syn_bd {d : Int} {m : Nat} (hd : d.natAbs < 128 - 1) : ∀ cs : List Int, (∀ c ∈ cs, c.natAbs < 2 ^ m) → ∀ c ∈ syn d cs, c.natAbs < 2 ^ (m + 7 * cs.length)
  | [], _ => by simp [syn]
  | c :: r, h => by
    have ih := syn_bd hd r fun x hx => h x (List.mem_cons_of_mem _ hx)
    intro x hx
    rw [syn] at hx
    rw [List.length_cons]
    have up : (2 : Nat) ^ (m + 7 * (r.length + 1)) = 2 ^ (m + 7 * r.length) * 128 := by rw [show m + 7 * (r.length + 1) = m + 7 * r.length + 7 by omega, Nat.pow_add]
    have lo : (2 : Nat) ^ m ≤ 2 ^ (m + 7 * r.length) := Nat.pow_le_pow_right (by omega) (by omega)
    rw [up]
    rcases List.mem_cons.mp hx with hx | hx
    · subst hx
      have hc := h c List.mem_cons_self
      have hh : ((syn d r).headD 0).natAbs < 2 ^ (m + 7 * r.length) := by
        cases hs : syn d r with
        | nil => simpa using Nat.pow_pos (by omega : 0 < 2)
        | cons a l => exact ih a (by rw [hs]; exact List.mem_cons_self)
      have t := Int.natAbs_add_le c (d * (syn d r).headD 0)
      rw [Int.natAbs_mul] at t
      have m1 : d.natAbs * ((syn d r).headD 0).natAbs ≤ 126 * 2 ^ (m + 7 * r.length) := Nat.mul_le_mul (by omega) (by omega)
      omega
    · exact Nat.lt_of_lt_of_le (ih x hx) (by omega)
theorem shf_bd {d : Int} (hd : d.natAbs < 128 - 1) : ∀ (n : Nat) (m : Nat) (cs : List Int) (L : Nat), cs.length ≤ L → (∀ c ∈ cs, c.natAbs < 2 ^ m) → ∀ c ∈ shf d n cs, c.natAbs < 2 ^ (m + 7 * L * n)
  | 0, m, cs, L, _, h => by simpa [shf] using h
  | n + 1, m, cs, L, hl, h => by
    have b := syn_bd hd cs h
    have l := syn_len d cs
    intro x hx
    rw [shf] at hx
    have up : ∀ k : Nat, k ≤ m + 7 * L * (n + 1) → (2 : Nat) ^ k ≤ 2 ^ (m + 7 * L * (n + 1)) := fun k hk => Nat.pow_le_pow_right (by omega) hk
    have mm : 7 * L * (n + 1) = 7 * L * n + 7 * L := by rw [Nat.mul_succ]
    have pos : 0 ≤ 7 * L * n := Nat.zero_le _
    cases hs : syn d cs with
    | nil => rw [hs] at hx; cases hx
    | cons v q =>
      rw [hs] at hx b l
      have b' : ∀ c ∈ v :: q, c.natAbs < 2 ^ (m + 7 * L) := fun c hc => Nat.lt_of_lt_of_le (b c hc) (Nat.pow_le_pow_right (by omega) (by omega))
      rcases List.mem_cons.mp hx with hx | hx
      · subst hx
        exact Nat.lt_of_lt_of_le (b' x List.mem_cons_self) (up _ (by omega))
      · have ih := shf_bd hd n (m + 7 * L) q L (by rw [List.length_cons] at l; omega) (fun c hc => b' c (List.mem_cons_of_mem _ hc)) x hx
        exact Nat.lt_of_lt_of_le ih (up _ (by omega))
theorem scl_bd {p : Int} (hp : p.natAbs < 128) : ∀ (cs : List Int) (b : Int) (m k : Nat), b.natAbs < 2 ^ k → (∀ c ∈ cs, c.natAbs < 2 ^ m) → ∀ c ∈ scl p b cs, c.natAbs < 2 ^ (m + k + 7 * cs.length)
  | [], b, m, k, _, _ => by simp [scl]
  | c :: r, b, m, k, hb, h => by
    intro x hx
    rw [scl] at hx
    rcases List.mem_cons.mp hx with hx | hx
    · subst hx
      rw [Int.natAbs_mul]
      have : c.natAbs * b.natAbs < 2 ^ m * 2 ^ k := Nat.mul_lt_mul'' (h c List.mem_cons_self) hb
      rw [← Nat.pow_add] at this
      exact Nat.lt_of_lt_of_le this (Nat.pow_le_pow_right (by omega) (by omega))
    · have hb' : (b * p).natAbs < 2 ^ (k + 7) := by
        rw [Int.natAbs_mul, Nat.pow_add]
        exact Nat.mul_lt_mul'' hb (by omega)
      have ih := scl_bd hp r (b * p) m (k + 7) hb' (fun c hc => h c (List.mem_cons_of_mem _ hc)) x hx
      rw [List.length_cons]
      exact Nat.lt_of_lt_of_le ih (Nat.pow_le_pow_right (by omega) (by omega))
end PM
namespace PM
open PL (leastI leastI_mem leastI_le)
/-- the last number is not 0 -/
def NzL (cs : List Int) : Prop := ∃ x, cs.getLast? = some x ∧ x ≠ 0
theorem NzL.ne {cs : List Int} (h : NzL cs) : cs ≠ [] := fun z => by obtain ⟨x, e, _⟩ := h; rw [z] at e; cases e
theorem NzL.tail {c d : Int} {r : List Int} (h : NzL (c :: d :: r)) : NzL (d :: r) := by
  obtain ⟨x, e, n⟩ := h; exact ⟨x, by rw [List.getLast?_cons_cons] at e; exact e, n⟩
theorem NzL.cons {c : Int} {r : List Int} (h : NzL r) : NzL (c :: r) := by
  cases r with
  | nil => exact absurd rfl h.ne
  | cons d r => obtain ⟨x, e, n⟩ := h; exact ⟨x, by rw [List.getLast?_cons_cons]; exact e, n⟩
theorem NzL.mem {cs : List Int} (h : NzL cs) : ∃ c ∈ cs, c ≠ 0 := by
  obtain ⟨x, e, n⟩ := h; exact ⟨x, List.mem_of_getLast? e, n⟩
theorem syn_nz (d : Int) : ∀ cs : List Int, NzL cs → NzL (syn d cs)
  | [], h => absurd rfl h.ne
  | [c], h => by simpa [syn] using h
  | c :: a :: r, h => by
    have ih := syn_nz d (a :: r) h.tail
    rw [syn]; exact ih.cons
theorem shf_nz (d : Int) : ∀ (n : Nat) (cs : List Int), NzL cs → NzL (shf d n cs)
  | 0, _, h => h
  | n + 1, cs, h => by
    have s := syn_nz d cs h
    rw [shf]
    cases hs : syn d cs with
    | nil => exact absurd hs s.ne
    | cons v q =>
      rw [hs] at s
      cases q with
      | nil =>
        dsimp only
        have : shf d n [] = [] := List.length_eq_zero_iff.mp (by rw [shf_len]; rfl)
        rw [this]; exact s
      | cons a r => exact (shf_nz d n (a :: r) s.tail).cons
theorem scl_nz {p : Int} (hp : p ≠ 0) : ∀ (cs : List Int) (b : Int), b ≠ 0 → NzL cs → NzL (scl p b cs)
  | [], _, _, h => absurd rfl h.ne
  | [c], b, hb, h => by
    obtain ⟨x, e, n⟩ := h
    cases e
    exact ⟨c * b, rfl, Int.mul_ne_zero n hb⟩
  | c :: a :: r, b, hb, h => (scl_nz hp (a :: r) (b * p) (Int.mul_ne_zero hb hp) h.tail).cons
theorem nz_of_map {k : Int} {qs : List Int} (h : NzL (qs.map fun q => k * q)) : NzL qs := by
  obtain ⟨x, e, n⟩ := h
  rw [List.getLast?_map] at e
  cases hq : qs.getLast? with
  | none => rw [hq] at e; cases e
  | some y => rw [hq] at e; cases e; exact ⟨y, hq, fun z => n (by rw [z]; simp)⟩
/-- all numbers so many times divided -/
def dvs (p : Int) (n : Nat) (cs : List Int) : List Int := cs.map fun c => c / p ^ n
theorem dvs_len (p : Int) (n : Nat) (cs : List Int) : (dvs p n cs).length = cs.length := List.length_map ..
noncomputable def exps (p : Int) (cs : List Int) : List Int := (cs.filter fun c => decide (c ≠ 0)).map (vp p)
noncomputable def lfN (p : Int) (cs : List Int) : Nat := (leastI (exps p cs)).toNat
noncomputable def lfQ (p : Int) (cs : List Int) : List Int := dvs p (lfN p cs) cs
theorem lfQ_len (p : Int) (cs : List Int) : (lfQ p cs).length = cs.length := dvs_len ..
theorem exps_ne {p : Int} {cs : List Int} (h : NzL cs) : exps p cs ≠ [] := by
  obtain ⟨c, hc, n⟩ := h.mem
  intro z
  unfold exps at z
  rw [List.map_eq_nil_iff] at z
  have : c ∈ cs.filter fun c => decide (c ≠ 0) := List.mem_filter.mpr ⟨hc, decide_eq_true n⟩
  rw [z] at this; cases this
theorem exps_mem {p x : Int} {cs : List Int} (h : x ∈ exps p cs) : ∃ c ∈ cs, c ≠ 0 ∧ x = vp p c := by
  unfold exps at h
  obtain ⟨c, hc, rfl⟩ := List.mem_map.mp h
  obtain ⟨h1, h2⟩ := List.mem_filter.mp hc
  exact ⟨c, h1, of_decide_eq_true h2, rfl⟩
theorem vp_nn {p c : Int} (hp : 2 ≤ p) (h : c ≠ 0) : 0 ≤ vp p c := by
  obtain ⟨m, v, e, hm, hv⟩ := vp_spec hp h
  rw [hv]; omega
theorem lfN_eq {p : Int} {cs : List Int} (hp : 2 ≤ p) (h : NzL cs) : leastI (exps p cs) = lfN p cs := by
  obtain ⟨c, hc, n, e⟩ := exps_mem (leastI_mem (exps_ne (p := p) h))
  have := vp_nn hp n
  unfold lfN; omega
theorem lfN_dvd {p : Int} {cs : List Int} (hp : 2 ≤ p) (h : NzL cs) : ∀ c ∈ cs, c = p ^ lfN p cs * (c / p ^ lfN p cs) := by
  intro c hc
  have P : p ^ lfN p cs ≠ 0 := Int.pow_ne_zero (by omega)
  by_cases z : c = 0
  · subst z; simp
  · obtain ⟨m, v, e, hm, hv⟩ := vp_spec hp z
    have l : leastI (exps p cs) ≤ vp p c := leastI_le _ (by
      unfold exps
      exact List.mem_map.mpr ⟨c, List.mem_filter.mpr ⟨hc, decide_eq_true z⟩, rfl⟩)
    rw [lfN_eq hp h, hv] at l
    obtain ⟨k, rfl⟩ : ∃ k, v = lfN p cs + k := ⟨v - lfN p cs, by omega⟩
    rw [Int.mul_ediv_cancel']
    exact ⟨m * p ^ k, by rw [e, Int.pow_add]; grind⟩
theorem lfQ_eq {p : Int} {cs : List Int} (hp : 2 ≤ p) (h : NzL cs) : cs = (lfQ p cs).map fun q => p ^ lfN p cs * q := by
  unfold lfQ dvs
  rw [List.map_map]
  conv => lhs; rw [← List.map_id cs]
  exact List.map_congr_left fun c hc => lfN_dvd hp h c hc
theorem lfQ_no {p : Int} {cs : List Int} (hp : 2 ≤ p) (h : NzL cs) : ∃ q ∈ lfQ p cs, q % p ≠ 0 := by
  obtain ⟨c, hc, n, e⟩ := exps_mem (leastI_mem (exps_ne (p := p) h))
  obtain ⟨m, v, e2, hm, hv⟩ := vp_spec hp n
  have l := lfN_eq hp h
  refine ⟨c / p ^ lfN p cs, List.mem_map.mpr ⟨c, hc, rfl⟩, ?_⟩
  have : v = lfN p cs := by rw [hv] at e; omega
  rw [← this, e2, Int.mul_ediv_cancel _ (Int.pow_ne_zero (by omega))]
  exact hm
theorem lfQ_nz {p : Int} {cs : List Int} (hp : 2 ≤ p) (h : NzL cs) : NzL (lfQ p cs) := by
  have e := lfQ_eq hp h
  exact nz_of_map (k := p ^ lfN p cs) (by rw [← e]; exact h)
theorem lfQ_bd {p : Int} {cs : List Int} {m : Nat} (h : ∀ c ∈ cs, c.natAbs < 2 ^ m) : ∀ c ∈ lfQ p cs, c.natAbs < 2 ^ m := by
  intro q hq
  unfold lfQ dvs at hq
  obtain ⟨c, hc, rfl⟩ := List.mem_map.mp hq
  exact Nat.lt_of_le_of_lt (Int.natAbs_ediv_le_natAbs c _) (h c hc)
theorem ev_lfQ {p : Int} {cs : List Int} (hp : 2 ≤ p) (h : NzL cs) (z : Int) : ev cs z = p ^ lfN p cs * ev (lfQ p cs) z := by
  conv => lhs; rw [lfQ_eq hp h]
  exact ev_mul _ z _
theorem lfN_lt {p : Int} {cs : List Int} {m : Nat} (hp : 2 ≤ p) (h : NzL cs) (hb : ∀ c ∈ cs, c.natAbs < 2 ^ m) : lfN p cs < m := by
  obtain ⟨c, hc, n, e⟩ := exps_mem (leastI_mem (exps_ne (p := p) h))
  have := vp_le hp n (hb c hc)
  have l := lfN_eq hp h
  omega
/-- seen from one figure more -/
noncomputable def on1 (p : Int) (cs : List Int) (d : Int) : List Int := scl p 1 (shf d (cs.length - 1) cs)
theorem on1_len (p : Int) (cs : List Int) (d : Int) : (on1 p cs d).length = cs.length := by unfold on1; rw [scl_len, shf_len]
theorem on1_nz {p : Int} {cs : List Int} (hp : 2 ≤ p) (h : NzL cs) (d : Int) : NzL (on1 p cs d) := scl_nz (by omega) _ 1 (by omega) (shf_nz d _ cs h)
theorem ev_on1 {p : Int} {cs : List Int} (d z : Int) : ev (on1 p cs d) z = ev cs (d + p * z) := by
  unfold on1
  rw [ev_scl, Int.one_mul, ev_shf d (p * z) _ cs (by omega)]
theorem on1_bd {p : Int} {cs : List Int} {d : Int} {m : Nat} (hp : p.natAbs < 127) (hd : d.natAbs < 127) (hl : cs.length ≤ 9) (h : ∀ c ∈ cs, c.natAbs < 2 ^ m) : ∀ c ∈ on1 p cs d, c.natAbs < 2 ^ (m + 600) := by
  intro c hc
  have b1 := shf_bd (d := d) (by omega) (cs.length - 1) m cs 9 hl h
  have b2 := scl_bd (p := p) (by omega) _ 1 _ 1 (by decide) b1 c hc
  refine Nat.lt_of_lt_of_le b2 (Nat.pow_le_pow_right (by omega) ?_)
  rw [shf_len]
  have : 7 * 9 * (cs.length - 1) ≤ 7 * 9 * 8 := Nat.mul_le_mul_left _ (by omega)
  omega
/-- seen from a stem -/
noncomputable def seeL (p : Int) : Nat × List Int → List Int → Nat × List Int
  | s, [] => s
  | s, d :: ds => seeL p (s.1 + lfN p (on1 p s.2 d), lfQ p (on1 p s.2 d)) ds
noncomputable def see (p : Int) (cs : List Int) (ds : List Int) : Nat × List Int := seeL p (lfN p cs, lfQ p cs) ds
/-- a stem's sum -/
def sm (p : Int) : List Int → Int
  | [] => 0
  | d :: ds => d + p * sm p ds
structure Seen (p : Int) (cs : List Int) (s : Int) (k : Nat) (t : Nat × List Int) : Prop where
  ev : ∀ z, ev cs (s + p ^ k * z) = p ^ t.1 * ev t.2 z
  nz : NzL t.2
  no : ∃ q ∈ t.2, q % p ≠ 0
  len : t.2.length = cs.length
theorem Seen.start {p : Int} {cs : List Int} (hp : 2 ≤ p) (h : NzL cs) : Seen p cs 0 0 (lfN p cs, lfQ p cs) :=
  ⟨fun z => by rw [Int.zero_add, Int.pow_zero, Int.one_mul]; exact ev_lfQ hp h z, lfQ_nz hp h, lfQ_no hp h, lfQ_len ..⟩
theorem Seen.on {p : Int} {cs : List Int} {s : Int} {k : Nat} {t : Nat × List Int} (hp : 2 ≤ p) (h : Seen p cs s k t) (d : Int) : Seen p cs (s + p ^ k * d) (k + 1) (t.1 + lfN p (on1 p t.2 d), lfQ p (on1 p t.2 d)) := by
  have n := on1_nz hp h.nz d
  refine ⟨fun z => ?_, lfQ_nz hp n, lfQ_no hp n, by rw [lfQ_len, on1_len, h.len]⟩
  have e := h.ev (d + p * z)
  rw [← ev_on1 (p := p) (cs := t.2) d z, ev_lfQ hp n z] at e
  rw [show s + p ^ k * d + p ^ (k + 1) * z = s + p ^ k * (d + p * z) by rw [Int.pow_succ]; grind, e]
  show _ = p ^ (t.1 + lfN p (on1 p t.2 d)) * _
  rw [Int.pow_add]; grind
theorem seeL_ok {p : Int} {cs : List Int} (hp : 2 ≤ p) : ∀ (ds : List Int) (s : Int) (k : Nat) (t : Nat × List Int), Seen p cs s k t → Seen p cs (s + p ^ k * sm p ds) (k + ds.length) (seeL p t ds)
  | [], s, k, t, h => by simpa [sm, seeL] using h
  | d :: ds, s, k, t, h => by
    have ih := seeL_ok hp ds _ _ _ (h.on hp d)
    rw [seeL, sm, List.length_cons]
    rw [show s + p ^ k * (d + p * sm p ds) = s + p ^ k * d + p ^ (k + 1) * sm p ds by rw [Int.pow_succ]; grind, show k + (ds.length + 1) = k + 1 + ds.length by omega]
    exact ih
theorem see_ok {p : Int} {cs : List Int} (hp : 2 ≤ p) (h : NzL cs) (ds : List Int) : Seen p cs (sm p ds) ds.length (see p cs ds) := by
  have r := seeL_ok hp ds 0 0 _ (Seen.start hp h)
  rw [Int.zero_add, Int.pow_zero, Int.one_mul, Nat.zero_add] at r
  exact r
theorem seeL_bd {p : Int} (hp : p.natAbs < 127) : ∀ (ds : List Int) (t : Nat × List Int) (m : Nat), (∀ d ∈ ds, d.natAbs < 127) → t.2.length ≤ 9 → (∀ c ∈ t.2, c.natAbs < 2 ^ m) → ∀ c ∈ (seeL p t ds).2, c.natAbs < 2 ^ (m + 600 * ds.length)
  | [], t, m, _, _, h => h
  | d :: ds, t, m, hd, hl, h => by
    rw [seeL, List.length_cons]
    have := seeL_bd hp ds (t.1 + lfN p (on1 p t.2 d), lfQ p (on1 p t.2 d)) (m + 600) (fun x hx => hd x (List.mem_cons_of_mem _ hx)) (by rw [lfQ_len, on1_len]; exact hl) (lfQ_bd (on1_bd hp (hd d List.mem_cons_self) hl h))
    rw [show m + 600 * (ds.length + 1) = m + 600 + 600 * ds.length by omega]
    exact this
end PM
namespace PM
open PySem PySem.Spec L2 PL
open PyProof.Rows hiding St
theorem shift_in (x fi : PV) (d : Int) (hd : d.natAbs < 127) (m : Nat) (hm : m ≤ 1000000) : ∀ (n : Nat) (P A B : List Int) (s4 : Slot), A.length = n → B ≠ [] → (∀ c ∈ A ++ B, c.natAbs < 2 ^ m) → P.length + A.length + B.length ≤ 1000 →
    ∃ s4', forL (gN 4) (bSeq (sAugI 2 (eV 4) (e2 mulP (eVo 1) (e2 ixP (eVo 2) (e2 addP (eVo 4) (eC (.int 1)))))) bNil) (rngDn ((P.length : Int) + n - 1) n) [.val x, .val (.int d), .own ((P ++ (A ++ syn d B)).map PV.int), .val fi, s4] = .next [.val x, .val (.int d), .own ((P ++ syn d (A ++ B)).map PV.int), .val fi, s4']
  | 0, P, A, B, s4, hA, hB, hb, hl => by
    have : A = [] := List.length_eq_zero_iff.mp hA
    subst this
    exact ⟨s4, by rw [rngDn_zero, forL_nil]; rfl⟩
  | n + 1, P, A, B, s4, hA, hB, hb, hl => by
    obtain ⟨A', a, rfl⟩ : ∃ A' a, A = A' ++ [a] := by
      rcases List.eq_nil_or_concat A with z | ⟨A', a, z⟩
      · rw [z] at hA; simp at hA
      · exact ⟨A', a, by rw [z, List.concat_eq_append]⟩
    rw [List.length_append, List.length_singleton] at hA hl
    have eAB : A' ++ [a] ++ B = A' ++ (a :: B) := by simp
    rw [eAB] at hb ⊢
    obtain ⟨s4', ih⟩ := shift_in x fi d hd m hm n P A' (a :: B) (.val (.int ((P.length : Int) + n))) (by omega) (fun z => nomatch z) hb (by rw [List.length_cons]; omega)
    refine ⟨s4', ?_⟩
    rw [← ih, rngDn_succ, forL_cons, gN_eq, onR_some]
    obtain ⟨h0, T, hs⟩ : ∃ h T, syn d B = h :: T := by
      have l := syn_len d B
      cases q : syn d B with
      | nil => rw [q] at l; exact absurd (List.length_eq_zero_iff.mp l.symm) hB
      | cons h T => exact ⟨h, T, rfl⟩
    have hh : h0.natAbs < 2 ^ (m + 7 * B.length) := syn_bd (by omega) B (fun c hc => hb c (List.mem_append_right _ (List.mem_cons_of_mem _ hc))) h0 (by rw [hs]; exact List.mem_cons_self)
    have mu : mulP (.int d) (.int h0) = .ok (.int (d * h0)) := mulP_ii (okMul_of (m := 7) (by omega) hh (by omega) (by omega) (by
      have : 1 ≤ B.length := by
        cases B with
        | nil => exact absurd rfl hB
        | cons _ _ => simp
      omega))
    have e1 : (P.length : Int) + ((n + 1 : Nat) : Int) - 1 = ((P.length + n : Nat) : Int) := by omega
    have e2' : (P.length : Int) + ((n + 1 : Nat) : Int) - 1 - 1 = (P.length : Int) + n - 1 := by omega
    rw [e2', e1]
    have Ls : P ++ (A' ++ [a] ++ (h0 :: T)) = (P ++ A') ++ a :: h0 :: T := by simp
    rw [hs, Ls]
    have PA : (P ++ A').length = P.length + n := by rw [List.length_append]; omega
    have LL : ((P ++ A') ++ a :: h0 :: T).length = P.length + n + (T.length + 2) := by rw [List.length_append, PA]; rfl
    have Tl : T.length + 1 = B.length := by rw [← syn_len d B, hs]; rfl
    have gi : ((P ++ A') ++ a :: h0 :: T).getD (P.length + n) 0 = a := by
      rw [List.getD_eq_getElem?_getD, List.getElem?_append_right (by omega), PA, Nat.sub_self]; rfl
    have g := getN_ints (ns := (P ++ A') ++ a :: h0 :: T) (k := ((P.length + n : Nat) : Int)) (by omega) (by omega) (by omega)
    rw [Int.toNat_natCast, gi] at g
    have ix : ixP (.lst (((P ++ A') ++ a :: h0 :: T).map PV.int)) (.int (((P.length + n : Nat) : Int) + 1)) = .ok (.int h0) := ixP_lst (by omega) (by
      rw [show (((P.length + n : Nat) : Int) + 1).toNat = P.length + n + 1 by omega, List.getElem?_map, List.getElem?_append_right (by omega), PA, show P.length + n + 1 - (P.length + n) = 1 by omega]; rfl)
    have ag := augN_ints (ns := (P ++ A') ++ a :: h0 :: T) (k := ((P.length + n : Nat) : Int)) (a := a) (b := d * h0) (by omega) (by omega)
    rw [Int.toNat_natCast] at ag
    have st : ((P ++ A') ++ a :: h0 :: T).set (P.length + n) (a + d * h0) = P ++ (A' ++ syn d (a :: B)) := by
      rw [List.set_append_right _ _ (by omega), PA, Nat.sub_self, syn, hs]
      simp
    rw [st] at ag
    simp only [List.set_cons_succ, List.set_cons_zero, bSeq_eq, sAugI_eq, getOwn0, getOwnS, onOwn_some, e2_eq, eVs, eV0, eVos, eVo0, eVo0', eC_eq, bind1, addP_ii, st_ok, g, onSome_some, ix, mu, ag, own_ok, then_next, bNil_eq, fo_next]
    rw [Int.natCast_add]
theorem shift_out (x : PV) (d : Int) (hd : d.natAbs < 127) : ∀ (n : Nat) (m : Nat) (P R : List Int) (s3 s4 : Slot), R.length = n + 1 → (∀ c ∈ R, c.natAbs < 2 ^ m) → m + 7000 * n ≤ 1000000 → P.length + R.length ≤ 1000 →
    ∃ s3' s4', forL (gN 3) (bSeq (sFor (iR rng3 (aCons (e2 subP (eD lenP (aCons (eVo 2) aNil)) (eC (.int 2))) (aCons (e2 subP (eVo 3) (eC (.int 1))) (aCons (e1 negP (eC (.int 1))) aNil)))) (gN 4) (bSeq (sAugI 2 (eV 4) (e2 mulP (eVo 1) (e2 ixP (eVo 2) (e2 addP (eVo 4) (eC (.int 1)))))) bNil)) bNil) (rngL P.length n) [.val x, .val (.int d), .own ((P ++ R).map PV.int), s3, s4] = .next [.val x, .val (.int d), .own ((P ++ shf d n R).map PV.int), s3', s4']
  | 0, m, P, R, s3, s4, hR, _, _, _ => ⟨s3, s4, by
    rw [show rngL (P.length : Int) 0 = [] from rfl, forL_nil]; rfl⟩
  | n + 1, m, P, R, s3, s4, hR, hb, hm, hl => by
    obtain ⟨A, b, rfl⟩ : ∃ A' a, R = A' ++ [a] := by
      rcases List.eq_nil_or_concat R with z | ⟨A', a, z⟩
      · rw [z] at hR; simp at hR
      · exact ⟨A', a, by rw [z, List.concat_eq_append]⟩
    rw [List.length_append, List.length_singleton] at hR hl
    obtain ⟨s4', i1⟩ := shift_in x (.int P.length) d hd m (by omega) (n + 1) P A [b] s4 (by omega) (fun z => nomatch z) hb (by simp; omega)
    have sb : syn d [b] = [b] := by simp [syn]
    rw [sb] at i1
    have sl : (syn d (A ++ [b])).length = n + 2 := by rw [syn_len, List.length_append, List.length_singleton]; omega
    obtain ⟨v, q, hs⟩ : ∃ v q, syn d (A ++ [b]) = v :: q := by
      cases z : syn d (A ++ [b]) with
      | nil => rw [z] at sl; simp at sl
      | cons v q => exact ⟨v, q, rfl⟩
    have bd := syn_bd (by omega) (A ++ [b]) hb
    rw [hs] at sl bd
    rw [List.length_cons] at sl
    have L7 : (A ++ [b]).length ≤ 1000 := by rw [List.length_append, List.length_singleton]; omega
    obtain ⟨s3'', s4'', i2⟩ := shift_out x d hd n (m + 7000) (P ++ [v]) q (.val (.int P.length)) s4' (by omega) (fun c hc => Nat.lt_of_lt_of_le (bd c (List.mem_cons_of_mem _ hc)) (Nat.pow_le_pow_right (by omega) (by omega))) (by omega) (by simp; omega)
    refine ⟨s3'', s4'', ?_⟩
    have fin : P ++ shf d (n + 1) (A ++ [b]) = P ++ [v] ++ shf d n q := by rw [shf, hs]; simp
    rw [fin, ← i2, rngL_step, forL_cons, gN_eq, onR_some]
    have e1 : ((P ++ [v]).length : Int) = (P.length : Int) + 1 := by simp
    rw [e1]
    have len : lenP [.lst ((P ++ (A ++ [b])).map PV.int)] = .ok (.int ((P.length : Int) + n + 2)) := by
      simp; omega
    have r3 : rng3 [.int ((P.length : Int) + n + 2 - 2), .int ((P.length : Int) - 1), .int (-1)] = .ok (rngDn ((P.length : Int) + (n + 1 : Nat) - 1) (n + 1)) := by
      rw [rng3_sm (by omega) (by omega) (by omega) (by omega)]
      rw [show ((P.length : Int) + n + 2 - 2 - ((P.length : Int) - 1)).toNat = n + 1 by omega, show (P.length : Int) + n + 2 - 2 = (P.length : Int) + (n + 1 : Nat) - 1 by omega]
    rw [hs] at i1
    simp only [List.set_cons_succ, List.set_cons_zero]
    rw [sqF (ρ' := [.val x, .val (.int d), .own ((P ++ (v :: q)).map PV.int), .val (.int P.length), s4']) (rngDn ((P.length : Int) + (n + 1 : Nat) - 1) (n + 1)) (by
      simp only [iR_eq, aCons_eq, aNil_eq, e2_eq, e1_eq, eD_eq, eVos, eVo0, eVo0', eC_eq, bind1, len, subP_ii, negP_eq, r3]) i1 rfl, bNil_eq, fo_next]
    rw [show P ++ [v] ++ q = P ++ v :: q by simp]
theorem f_shifted {cs : List Int} {d : Int} {m : Nat} (hd : d.natAbs < 127) (h1 : 1 ≤ cs.length) (h2 : cs.length ≤ 9) (hb : ∀ c ∈ cs, c.natAbs < 2 ^ m) (hm : m ≤ 900000) : F_shifted [.lst (cs.map PV.int), .int d] = .ok (.lst ((shf d (cs.length - 1) cs).map PV.int)) := by
  obtain ⟨s3, s4, i⟩ := shift_out (.lst (cs.map PV.int)) d hd (cs.length - 1) m [] cs .un .un (by omega) hb (by omega) (by simp; omega)
  rw [List.nil_append, List.nil_append] at i
  have ln : lenP [.lst (cs.map PV.int)] = .ok (.int cs.length) := by simp
  refine (runF_eq (n := 5) (u := D_shifted)).trans ?_
  show (D_shifted [.val (.lst (cs.map PV.int)), .val (.int d), .un, .un, .un]).res = _
  unfold D_shifted
  refine stpN (ρ' := [.val (.lst (cs.map PV.int)), .val (.int d), .own (cs.map PV.int), .un, .un]) (by
    simp only [sSetO_eq, eD_eq, aCons_eq, aNil_eq, eVo0, bind1, listP_l, st_ok, asL_l, own_ok, List.set_cons_succ, List.set_cons_zero]) ?_
  refine stpFor (rngL 0 (cs.length - 1)) _ (by
    simp only [iR_eq, aCons_eq, aNil_eq, e2_eq, eD_eq, eVos, eVo0', eC_eq, bind1, ln, subP_ii]
    rw [rng1_sm (by omega) (by omega), show ((cs.length : Int) - 1).toNat = cs.length - 1 by omega]) i ?_
  simp only [bSeq_eq, sRetO_eq, getOwn0, getOwnS, onOwn_some, then_ret, res_ret]
end PM
set_option Elab.async false
set_option linter.all false
set_option maxRecDepth 100000
set_option autoImplicit false
set_option exponentiation.threshold 20000
namespace PM
open PySem PySem.Spec L2 PL
open PyProof.Rows hiding St
theorem sAug_at {i : Nat} {w : PV → PV → R PV} {f : Rho → R PV} {ρ : Rho} {x y z : PV} (hx : ρ[i]? = some (.val x)) (hf : f ρ = .ok y) (hw : w x y = .ok z) : sAug i w f ρ = .next (ρ.set i (.val z)) := by
  rw [sAug0, hx]; simp only [hf, bind1, hw, st_ok]
theorem lift_lc {p : Int} (hp : 2 ≤ p) (hp2 : p < 2 ^ 8000) (x : PV) : ∀ cs : List Int, lcGo (gN 5) (tB1 (e2 neP (eVo 5) (eC (.int 0)))) (eD F_exponent (aCons (eV 0) (aCons (eV 5) aNil))) [.val (.int p), .val x, .un, .un, .un, .un] (cs.map PV.int) = .ok ((exps p cs).map PV.int)
  | [] => rfl
  | c :: r => by
    have ih := lift_lc hp hp2 x r
    rw [List.map_cons, lcGo, show gN 5 (.int c) [.val (.int p), .val x, .un, .un, .un, .un] = some [.val (.int p), .val x, .un, .un, .un, .val (.int c)] from rfl]
    dsimp only
    have t : tB1 (e2 neP (eVo 5) (eC (.int 0))) [.val (.int p), .val x, .un, .un, .un, .val (.int c)] = .ok (!(c == 0)) := by
      simp only [tB1_eq, e2_eq, eVos, eVo0, eC_eq, bind1, neP_ii, asB_eq]
    rw [t]
    by_cases z : c = 0
    · subst z
      rw [show (!((0 : Int) == 0)) = false from rfl]
      dsimp only
      rw [ih]
      unfold exps
      rw [List.filter_cons_of_neg (by simp)]
    · have e : (c == 0) = false := by rw [beq_eq_false_iff_ne]; exact z
      rw [e, Bool.not_false]
      dsimp only
      have f := f_exp hp hp2 z
      rw [show eD F_exponent (aCons (eV 0) (aCons (eV 5) aNil)) [.val (.int p), .val x, .un, .un, .un, .val (.int c)] = .ok (.int (vp p c)) by simp only [eD_eq, aCons_eq, aNil_eq, eV0, eVs, bind1, f]]
      dsimp only
      rw [ih]
      unfold exps
      rw [List.filter_cons_of_pos (by simpa using z)]
      rfl
theorem div_lc {p : Int} (hp : 2 ≤ p) (hp2 : p < 2 ^ 8000) (ρ : Rho) (h0 : ρ = .val (.int p) :: ρ.tail) (h6 : ρ.length = 6) : ∀ cs : List Int, lcGo (gN 5) cYes (e2 fdivP (eVo 5) (eVo 0)) ρ (cs.map PV.int) = .ok ((cs.map fun c => c / p).map PV.int)
  | [] => rfl
  | c :: r => by
    have ih := div_lc hp hp2 ρ h0 h6 r
    rw [List.map_cons, lcGo, gN_eq]
    dsimp only [cYes]
    have g5 : (ρ.set 5 (.val (.int c)))[5]? = some (.val (.int c)) := List.getElem?_set_self (by omega)
    have g0 : (ρ.set 5 (.val (.int c)))[0]? = some (.val (.int p)) := by rw [List.getElem?_set_ne (by omega), h0]; rfl
    have f := fdivP_pos (a := c) (b := p) (by omega) (Int.lt_of_lt_of_le hp2 (by decide))
    rw [show e2 fdivP (eVo 5) (eVo 0) (ρ.set 5 (.val (.int c))) = .ok (.int (c / p)) by simp only [e2_eq, eVo_of g5, eVo_of g0, bind1, f]]
    dsimp only
    rw [ih]
    rfl
theorem dvs_succ {p : Int} (hp : 2 ≤ p) (n : Nat) (cs : List Int) : dvs p n (cs.map fun c => c / p) = dvs p (n + 1) cs := by
  unfold dvs
  rw [List.map_map]
  refine List.map_congr_left fun c _ => ?_
  show c / p / p ^ n = c / p ^ (n + 1)
  rw [Int.pow_succ, Int.mul_comm, Int.ediv_ediv_of_nonneg (by omega)]
theorem div_loop {p : Int} (hp : 2 ≤ p) (hp2 : p < 2 ^ 8000) (x l : PV) : ∀ (n : Nat) (a : Int) (cs : List Int) (s4 : Slot), cs.length ≤ 1000 →
    ∃ s4', forL (gN 4) (bSeq (sSet 3 (eLc [5] (iS (eV 3)) (gN 5) cYes (e2 fdivP (eVo 5) (eVo 0)))) bNil) (rngL a n) [.val (.int p), .val x, .val l, .val (.lst (cs.map PV.int)), s4, .un] = .next [.val (.int p), .val x, .val l, .val (.lst ((dvs p n cs).map PV.int)), s4', .un]
  | 0, a, cs, s4, _ => ⟨s4, by
    rw [show rngL a 0 = [] from rfl, forL_nil]
    have : dvs p 0 cs = cs := by unfold dvs; simp
    rw [this]⟩
  | n + 1, a, cs, s4, hl => by
    obtain ⟨s4', ih⟩ := div_loop hp hp2 x l n (a + 1) (cs.map fun c => c / p) (.val (.int a)) (by rw [List.length_map]; exact hl)
    refine ⟨s4', ?_⟩
    rw [dvs_succ hp] at ih
    rw [← ih, rngL_step, forL_cons, gN_eq, onR_some]
    simp only [List.set_cons_succ, List.set_cons_zero]
    have L := eLc_ok (vs := [5]) (it := iS (eV 3)) (ρ := [.val (.int p), .val x, .val l, .val (.lst (cs.map PV.int)), .val (.int a), .un]) (items := cs.map PV.int) rfl (by simp only [iS_eq, eVs, eV0, bind1, asS_l]) (by rw [List.length_map]; omega) (div_lc hp hp2 (wipeR [.val (.int p), .val x, .val l, .val (.lst (cs.map PV.int)), .val (.int a), .un] [5]) rfl rfl cs)
    simp only [bSeq_eq, sSet_eq, L, st_ok, then_next, bNil_eq, fo_next, List.set_cons_succ, List.set_cons_zero]
theorem f_liftedX {p : Int} {cs : List Int} {x : PV} (hx : asS x = .ok (cs.map PV.int)) (hx2 : listP [x] = .ok (.lst (cs.map PV.int))) (hp : 2 ≤ p) (hp2 : p < 2 ^ 8000) (h : NzL cs) (hl : cs.length ≤ 1000) (hz : lfN p cs ≤ 1000000) : F_lifted [.int p, x] = .ok (.tup [.int (lfN p cs), .lst ((lfQ p cs).map PV.int)]) := by
  have el : (exps p cs).length ≤ 1000 := by
    unfold exps; rw [List.length_map]; exact Nat.le_trans (List.length_filter_le ..) hl
  have L := eLc_ok (vs := [5]) (it := iS (eV 1)) (tgt := gN 5) (ρ := [.val (.int p), .val x, .un, .un, .un, .un]) (items := cs.map PV.int) rfl (by simp only [iS_eq, eVs, eV0, bind1, hx]) (by rw [List.length_map]; omega) (lift_lc hp hp2 x cs)
  have mn := minPL_ok (exps_ne (p := p) h)
  rw [lfN_eq hp h] at mn
  obtain ⟨s4', i⟩ := div_loop hp hp2 x (.int (lfN p cs)) (lfN p cs) 0 cs .un hl
  refine (runF_eq (n := 6) (u := D_lifted)).trans ?_
  show (D_lifted [.val (.int p), .val x, .un, .un, .un, .un]).res = _
  unfold D_lifted
  refine stp (.int (lfN p cs)) (by rw [eD_eq, aCons_eq, L, bind1, aNil_eq, bind1, bind1, mn]) ?_
  simp only [List.set_cons_succ, List.set_cons_zero]
  refine stp (.lst (cs.map PV.int)) (by simp only [eD_eq, aCons_eq, aNil_eq, eVos, eVo0, bind1, hx2]) ?_
  simp only [List.set_cons_succ, List.set_cons_zero]
  refine stpFor (rngL 0 (lfN p cs)) _ (by
    simp only [iR_eq, aCons_eq, aNil_eq, eVos, eVo0, bind1]
    rw [rng1_sm (by omega) (by omega), Int.toNat_natCast]) i ?_
  simp only [bSeq_eq, sRet_eq, eD_eq, aCons_eq, aNil_eq, eVs, eV0, bind1, tupP2, st_ok, then_ret, res_ret]
  rfl
theorem f_lifted {p : Int} {cs : List Int} (hp : 2 ≤ p) (hp2 : p < 2 ^ 8000) (h : NzL cs) (hl : cs.length ≤ 1000) (hz : lfN p cs ≤ 1000000) : F_lifted [.int p, .lst (cs.map PV.int)] = .ok (.tup [.int (lfN p cs), .lst ((lfQ p cs).map PV.int)]) := f_liftedX asS_l listP_l hp hp2 h hl hz
theorem scl_loop {p : Int} (hp : p.natAbs < 127) (x y : PV) (m : Nat) (hm : m ≤ 900000) : ∀ (r acc : List Int) (b : Int) (k : Nat) (s5 : Slot), b.natAbs < 2 ^ k → k + 7 * r.length ≤ 90000 → 1 ≤ k → (∀ c ∈ r, c.natAbs < 2 ^ m) → acc.length + r.length ≤ 1000 →
    ∃ b' s5', forL (gN 5) (bSeq (sMut 4 appP (e2 mulP (eVo 5) (eVo 3))) (bSeq (sAug 3 mulP (eVo 0)) bNil)) (r.map PV.int) [.val (.int p), .val x, .val y, .val (.int b), .own (acc.map PV.int), s5] = .next [.val (.int p), .val x, .val y, .val (.int b'), .own ((acc ++ scl p b r).map PV.int), s5']
  | [], acc, b, k, s5, _, _, _, _, _ => ⟨b, s5, by rw [List.map_nil, forL_nil, scl, List.append_nil]⟩
  | c :: r, acc, b, k, s5, hb, hk, k1, h, hl => by
    rw [List.length_cons] at hk hl
    have hb' : (b * p).natAbs < 2 ^ (k + 7) := by
      rw [Int.natAbs_mul, Nat.pow_add]
      exact Nat.mul_lt_mul'' hb (by omega)
    obtain ⟨b', s5', ih⟩ := scl_loop hp x y m hm r (acc ++ [c * b]) (b * p) (k + 7) (.val (.int c)) hb' (by omega) (by omega) (fun z hz => h z (List.mem_cons_of_mem _ hz)) (by simp; omega)
    refine ⟨b', s5', ?_⟩
    have e : acc ++ scl p b (c :: r) = acc ++ [c * b] ++ scl p (b * p) r := by rw [scl]; simp
    rw [e, ← ih, List.map_cons, forL_cons, gN_eq, onR_some]
    have m1 : mulP (.int c) (.int b) = .ok (.int (c * b)) := mulP_ii (okMul_of (m := m + 1) (Nat.lt_of_lt_of_le (h c List.mem_cons_self) (Nat.pow_le_pow_right (by omega) (by omega))) hb (by omega) (by omega) (by omega))
    have m2 : mulP (.int b) (.int p) = .ok (.int (b * p)) := mulP_ii (okMul_of (n := 7) hb (by omega) (by omega) (by omega) (by omega))
    have ap : appP (acc.map PV.int) (.int (c * b)) = .ok ((acc ++ [c * b]).map PV.int) := by
      rw [appP_ok (by rw [List.length_map]; omega)]; simp
    simp only [List.set_cons_succ, List.set_cons_zero, bSeq_eq, sMut_eq, getOwn0, getOwnS, onOwn_some, e2_eq, eVos, eVo0, bind1, m1, st_ok, ap, own_ok, then_next]
    rw [sAug_at (x := .int b) (y := .int p) (z := .int (b * p)) rfl (by simp only [eVo0]) m2, then_next]
    simp only [List.set_cons_succ, List.set_cons_zero, bNil_eq, fo_next]
theorem f_one_on {p d : Int} {cs : List Int} {m : Nat} (hp : 2 ≤ p) (hp2 : p < 127) (hd : d.natAbs < 127) (h : NzL cs) (hl : cs.length ≤ 9) (hb : ∀ c ∈ cs, c.natAbs < 2 ^ m) (hm : m ≤ 400000) : F_one_on [.int p, .lst (cs.map PV.int), .int d] = .ok (.tup [.int (lfN p (on1 p cs d)), .lst ((lfQ p (on1 p cs d)).map PV.int)]) := by
  have l1 : 1 ≤ cs.length := by
    cases cs with
    | nil => exact absurd rfl h.ne
    | cons _ _ => simp
  have S := f_shifted hd l1 hl hb (by omega)
  have sb := shf_bd (d := d) (by omega) (cs.length - 1) m cs 9 hl hb
  have k9 : 7 * 9 * (cs.length - 1) ≤ 504 := by omega
  obtain ⟨b', s5', i⟩ := scl_loop (p := p) (by omega) (.lst (cs.map PV.int)) (.int d) (m + 504) (by omega) (shf d (cs.length - 1) cs) [] 1 1 .un (by decide) (by rw [shf_len]; omega) (by omega) (fun c hc => Nat.lt_of_lt_of_le (sb c hc) (Nat.pow_le_pow_right (by omega) (by omega))) (by rw [shf_len]; simp; omega)
  rw [List.nil_append] at i
  have nz := on1_nz hp h d
  have bb := on1_bd (p := p) (d := d) (by omega) hd hl hb
  have lt := lfN_lt hp nz bb
  have L := f_lifted (p := p) (cs := on1 p cs d) hp (by omega) nz (by rw [on1_len]; omega) (by omega)
  refine (runF_eq (n := 6) (u := D_one_on)).trans ?_
  show (D_one_on [.val (.int p), .val (.lst (cs.map PV.int)), .val (.int d), .un, .un, .un]).res = _
  unfold D_one_on
  refine stp (.int 1) (by rw [eC_eq]) ?_
  simp only [List.set_cons_succ, List.set_cons_zero]
  refine stpN (ρ' := [.val (.int p), .val (.lst (cs.map PV.int)), .val (.int d), .val (.int 1), .own [], .un]) (by
    simp only [sSetO_eq, eD_eq, aNil_eq, bind1, lstP0, st_ok, asL_l, own_ok, List.set_cons_succ, List.set_cons_zero]) ?_
  refine stpFor ((shf d (cs.length - 1) cs).map PV.int) _ (by simp only [iS_eq, eD_eq, aCons_eq, aNil_eq, eVs, eV0, bind1, S, asS_l]) i ?_
  rw [sFrz_eq]
  show (bSeq (sRet (eD F_lifted (aCons (eV 0) (aCons (eV 4) aNil)))) bNil [.val (.int p), .val (.lst (cs.map PV.int)), .val (.int d), .val (.int b'), .val (.lst ((on1 p cs d).map PV.int)), s5']).res = _
  simp only [bSeq_eq, sRet_eq, eD_eq, aCons_eq, aNil_eq, eVs, eV0, bind1, L, st_ok, then_ret, res_ret]
theorem seen_loop {p : Int} (hp : 2 ≤ p) (hp2 : p < 127) (x y : PV) : ∀ (ds : List Int) (t : Nat × List Int) (m : Nat) (s5 s6 : Slot), (∀ d ∈ ds, d.natAbs < 127) → NzL t.2 → t.2.length ≤ 9 → (∀ c ∈ t.2, c.natAbs < 2 ^ m) → m + 600 * ds.length ≤ 400000 →
    ∃ s5' s6', forL (gN 5) (bSeq (sTo (gT (gsCons (gN 6) (gsCons (gN 4) gsNil))) (eD F_one_on (aCons (eV 0) (aCons (eV 4) (aCons (eV 5) aNil))))) (bSeq (sAug 3 (intP (fun _ _ => true) fun a b => .int (a + b)) (eVo 6)) bNil)) (ds.map PV.int) [.val (.int p), .val x, .val y, .val (.int t.1), .val (.lst (t.2.map PV.int)), s5, s6] = .next [.val (.int p), .val x, .val y, .val (.int (seeL p t ds).1), .val (.lst ((seeL p t ds).2.map PV.int)), s5', s6']
  | [], t, m, s5, s6, _, _, _, _, _ => ⟨s5, s6, by rw [List.map_nil, forL_nil, seeL]⟩
  | d :: ds, t, m, s5, s6, hd, hn, hl, hb, hm => by
    rw [List.length_cons] at hm
    have d1 := hd d List.mem_cons_self
    have nz := on1_nz hp hn d
    have S := f_one_on hp hp2 d1 hn hl hb (by omega)
    obtain ⟨s5', s6', ih⟩ := seen_loop hp hp2 x y ds (t.1 + lfN p (on1 p t.2 d), lfQ p (on1 p t.2 d)) (m + 600) (.val (.int d)) (.val (.int (lfN p (on1 p t.2 d)))) (fun z hz => hd z (List.mem_cons_of_mem _ hz)) (lfQ_nz hp nz) (by rw [lfQ_len, on1_len]; exact hl) (lfQ_bd (on1_bd (by omega) d1 hl hb)) (by omega)
    refine ⟨s5', s6', ?_⟩
    rw [seeL, ← ih, List.map_cons, forL_cons, gN_eq, onR_some]
    have g : gT (gsCons (gN 6) (gsCons (gN 4) gsNil)) (.tup [.int (lfN p (on1 p t.2 d)), .lst ((lfQ p (on1 p t.2 d)).map PV.int)]) [.val (.int p), .val x, .val y, .val (.int t.1), .val (.lst (t.2.map PV.int)), .val (.int d), s6] = some [.val (.int p), .val x, .val y, .val (.int t.1), .val (.lst ((lfQ p (on1 p t.2 d)).map PV.int)), .val (.int d), .val (.int (lfN p (on1 p t.2 d)))] := rfl
    simp only [List.set_cons_succ, List.set_cons_zero, bSeq_eq, sTo_eq, eD_eq, aCons_eq, aNil_eq, eVs, eV0, bind1, S, st_ok, g, onR_some, then_next]
    rw [sAug_at (x := .int t.1) (y := .int (lfN p (on1 p t.2 d))) (z := .int (t.1 + lfN p (on1 p t.2 d))) rfl (by simp only [eVos, eVo0]) iadd_ii, then_next]
    simp only [List.set_cons_succ, List.set_cons_zero, bNil_eq, fo_next]
    rw [Int.natCast_add]
theorem f_seen_fromX {p : Int} {cs ds : List Int} {m : Nat} {x : PV} (hx : asS x = .ok (cs.map PV.int)) (hx2 : listP [x] = .ok (.lst (cs.map PV.int))) (hp : 2 ≤ p) (hp2 : p < 127) (h : NzL cs) (hl : cs.length ≤ 9) (hb : ∀ c ∈ cs, c.natAbs < 2 ^ m) (hd : ∀ d ∈ ds, d.natAbs < 127) (hm : m + 600 * ds.length ≤ 400000) :
    F_seen_from [.int p, x, .tup (ds.map PV.int)] = .ok (.tup [.int (see p cs ds).1, .lst ((see p cs ds).2.map PV.int)]) := by
  have lt := lfN_lt hp h hb
  have L := f_liftedX (p := p) hx hx2 hp (by omega) h (by omega) (by omega)
  obtain ⟨s5', s6', i⟩ := seen_loop hp hp2 x (.tup (ds.map PV.int)) ds (lfN p cs, lfQ p cs) m .un .un hd (lfQ_nz hp h) (by rw [lfQ_len]; exact hl) (lfQ_bd hb) hm
  refine (runF_eq (n := 7) (u := D_seen_from)).trans ?_
  show (D_seen_from [.val (.int p), .val x, .val (.tup (ds.map PV.int)), .un, .un, .un, .un]).res = _
  unfold D_seen_from
  refine stpN (ρ' := [.val (.int p), .val x, .val (.tup (ds.map PV.int)), .val (.int (lfN p cs)), .val (.lst ((lfQ p cs).map PV.int)), .un, .un]) (by
    simp only [sTo_eq, eD_eq, aCons_eq, aNil_eq, eVs, eV0, bind1, L, st_ok]
    rfl) ?_
  refine stpFor (ds.map PV.int) _ (by simp only [iS_eq, eVs, eV0, bind1, asS_t]) i ?_
  simp only [bSeq_eq, sRet_eq, eD_eq, aCons_eq, aNil_eq, eVs, eV0, bind1, tupP2, st_ok, then_ret, res_ret]
  rfl
theorem f_seen_from {p : Int} {cs ds : List Int} {m : Nat} (hp : 2 ≤ p) (hp2 : p < 127) (h : NzL cs) (hl : cs.length ≤ 9) (hb : ∀ c ∈ cs, c.natAbs < 2 ^ m) (hd : ∀ d ∈ ds, d.natAbs < 127) (hm : m + 600 * ds.length ≤ 400000) :
    F_seen_from [.int p, .lst (cs.map PV.int), .tup (ds.map PV.int)] = .ok (.tup [.int (see p cs ds).1, .lst ((see p cs ds).2.map PV.int)]) := f_seen_fromX asS_l listP_l hp hp2 h hl hb hd hm
end PM
set_option Elab.async false
set_option linter.all false
set_option maxRecDepth 100000
set_option autoImplicit false
set_option exponentiation.threshold 20000
namespace PM
open PySem PySem.Spec L2 PL
open PyProof.Rows hiding St
theorem foN {b : Out} {ρ : Rho} {k : Rho → Out} (h : b = .next ρ) : Out.fo b k = k ρ := by rw [h, fo_next]
theorem ev_bd {m k : Nat} {x : Int} (hx : x.natAbs < 2 ^ k) : ∀ cs : List Int, (∀ c ∈ cs, c.natAbs < 2 ^ m) → (ev cs x).natAbs < 2 ^ (m + (k + 1) * cs.length)
  | [], _ => by rw [ev]; exact Nat.pow_pos (by omega)
  | c :: r, h => by
    have ih := ev_bd hx r fun z hz => h z (List.mem_cons_of_mem _ hz)
    have hc := h c List.mem_cons_self
    have t := mul_bound hx ih
    rw [ev, List.length_cons, show m + (k + 1) * (r.length + 1) = (k + (m + (k + 1) * r.length)) + 1 by rw [Nat.mul_succ]; omega, Nat.pow_succ]
    have l : (2 : Nat) ^ m ≤ 2 ^ (k + (m + (k + 1) * r.length)) := Nat.pow_le_pow_right (by omega) (by omega)
    have := Int.natAbs_add_le c (x * ev r x)
    omega
theorem hor_loop {x : Int} (j : Nat) (a b : PV) (hj : [a, b][j]? = some (.int x)) {m k : Nat} (hx : x.natAbs < 2 ^ k) (hk : 1 ≤ k) (hm : 1 ≤ m) : ∀ (l done : List Int) (s3 : Slot), (∀ c ∈ l, c.natAbs < 2 ^ m) → (∀ c ∈ done, c.natAbs < 2 ^ m) → m + (k + 1) * (l.length + done.length) + k ≤ 90000000 →
    ∃ s3', forL (gN 3) (bSeq (sSet 2 (e2 addP (e2 mulP (eVo 2) (eVo j)) (eVo 3))) bNil) (l.map PV.int) [.val a, .val b, .val (.int (ev done x)), s3] = .next [.val a, .val b, .val (.int (ev (l.reverse ++ done) x)), s3']
  | [], done, s3, _, _, _ => ⟨s3, by rw [List.map_nil, forL_nil]; rfl⟩
  | c :: l, done, s3, h1, h2, hz => by
    rw [List.length_cons] at hz
    obtain ⟨s3', ih⟩ := hor_loop j a b hj hx hk hm l (c :: done) (.val (.int c)) (fun z hz => h1 z (List.mem_cons_of_mem _ hz)) (fun z hz => by
      rcases List.mem_cons.mp hz with rfl | hz
      · exact h1 _ List.mem_cons_self
      · exact h2 z hz) (by rw [List.length_cons, show l.length + (done.length + 1) = l.length + 1 + done.length by omega]; exact hz)
    refine ⟨s3', ?_⟩
    have e : (c :: l).reverse ++ done = l.reverse ++ (c :: done) := by simp
    have bd := ev_bd hx done h2
    have le : (k + 1) * done.length ≤ (k + 1) * (l.length + 1 + done.length) := Nat.mul_le_mul_left _ (by omega)
    have mu : mulP (.int (ev done x)) (.int x) = .ok (.int (ev done x * x)) := mulP_ii (okMul_of bd hx (by omega) (by omega) (by omega))
    have ej : eVo j [.val a, .val b, .val (.int (ev done x)), .val (.int c)] = .ok (.int x) := by
      match j, hj with
      | 0, hj => cases hj; rfl
      | 1, hj => cases hj; rfl
      | j + 2, hj => simp at hj
    have v : ev done x * x + c = ev (c :: done) x := by rw [ev]; grind
    rw [e, ← ih, List.map_cons, forL_cons, gN_eq, onR_some]
    simp only [List.set_cons_succ, List.set_cons_zero, bSeq_eq, sSet_eq, e2_eq, ej, eVos, eVo0, bind1, mu, addP_ii, st_ok, then_next, bNil_eq, fo_next, v]
theorem f_whole_worth {cs : List Int} {x : Int} {m k : Nat} (hx : x.natAbs < 2 ^ k) (hb : ∀ c ∈ cs, c.natAbs < 2 ^ m) (hk : 1 ≤ k) (hm : 1 ≤ m) (hz : m + (k + 1) * cs.length + k ≤ 90000000) : F_whole_worth [.lst (cs.map PV.int), .int x] = .ok (.int (ev cs x)) := by
  obtain ⟨s3, i⟩ := hor_loop 1 (.lst (cs.map PV.int)) (.int x) rfl hx hk hm cs.reverse [] .un (fun c hc => hb c (List.mem_reverse.mp hc)) (fun _ z => nomatch z) (by simpa using hz)
  rw [List.reverse_reverse, List.append_nil, List.map_reverse] at i
  refine (runF_eq (n := 4) (u := D_whole_worth)).trans ?_
  show (D_whole_worth [.val (.lst (cs.map PV.int)), .val (.int x), .un, .un]).res = _
  unfold D_whole_worth
  refine stp (.int 0) (by rw [eC_eq]) ?_
  simp only [List.set_cons_succ, List.set_cons_zero]
  refine stpFor (cs.map PV.int).reverse _ (by simp only [iRv_eq, eV0, bind1, asS_l]) i ?_
  simp only [bSeq_eq, sRet_eq, eVs, eV0, st_ok, then_ret, res_ret]
/-- so many times a factor -/
theorem mul_loopG {i j a : Nat} {y : Int} (ij : i ≠ j) (aj : a ≠ j) (ai : a ≠ i) (hy : y.natAbs < 2 ^ 7) : ∀ (items : List PV) (ρ : Rho) (x : Int) (m : Nat), ρ[i]? = some (.val (.int x)) → ρ[j]? = some (.val (.int y)) → a < ρ.length → x.natAbs < 2 ^ m → 1 ≤ m → m + 7 * items.length ≤ 90000000 →
    ∃ s, forL (gN a) (bSeq (sSet i (e2 mulP (eVo i) (eVo j))) bNil) items ρ = .next ((ρ.set i (.val (.int (x * y ^ items.length)))).set a s)
  | [], ρ, x, m, hi, hj, ha, hx, h1, hm => ⟨ρ[a], by
    rw [forL_nil, List.length_nil, Int.pow_zero, Int.mul_one, set_self hi]
    rw [set_self (List.getElem?_eq_getElem ha)]⟩
  | p :: l, ρ, x, m, hi, hj, ha, hx, h1, hm => by
    rw [List.length_cons] at hm
    have il : i < ρ.length := (List.getElem?_eq_some_iff.mp hi).1
    obtain ⟨s, ih⟩ := mul_loopG ij aj ai hy l ((ρ.set a (.val p)).set i (.val (.int (x * y)))) (x * y) (m + 7) (List.getElem?_set_self (by rw [List.length_set]; exact il)) (by rw [List.getElem?_set_ne ij, List.getElem?_set_ne aj]; exact hj) (by rw [List.length_set, List.length_set]; exact ha) (mul_bound hx hy) (by omega) (by omega)
    refine ⟨s, ?_⟩
    have mu : mulP (.int x) (.int y) = .ok (.int (x * y)) := mulP_ii (okMul_of hx hy (by omega) (by omega) (by omega))
    have g1 : (ρ.set a (.val p))[i]? = some (.val (.int x)) := by rw [List.getElem?_set_ne ai]; exact hi
    have g2 : (ρ.set a (.val p))[j]? = some (.val (.int y)) := by rw [List.getElem?_set_ne aj]; exact hj
    rw [forL_cons, gN_eq, onR_some]
    simp only [bSeq_eq, sSet_eq, e2_eq, eVo_of g1, eVo_of g2, bind1, mu, st_ok, then_next, bNil_eq, fo_next]
    rw [ih, List.set_set, List.set_comm _ _ ai, List.set_set, List.length_cons, Int.pow_succ, Int.mul_assoc, Int.mul_comm y]
theorem at0_bd {l : List Int} {m : Nat} (h : ∀ c ∈ l, c.natAbs < 2 ^ m) (n : Nat) : (at0 l n).natAbs < 2 ^ m := by
  unfold at0
  rw [List.getD_eq_getElem?_getD]
  rcases Nat.lt_or_ge n l.length with g | g
  · rw [List.getElem?_eq_getElem g]; exact h _ (List.getElem_mem g)
  · rw [List.getElem?_eq_none g]; exact Nat.pow_pos (by omega)
theorem prow_bd {a b : List Int} {m k : Nat} (ha : ∀ c ∈ a, c.natAbs < 2 ^ m) (hb : ∀ c ∈ b, c.natAbs < 2 ^ k) (n : Nat) : ∀ i : Nat, (prow a b n i).natAbs ≤ i * 2 ^ (m + k)
  | 0 => by rw [prow]; simp
  | i + 1 => by
    have ih := prow_bd ha hb n i
    rw [prow, Nat.succ_mul]
    have t := Int.natAbs_add_le (prow a b n i) (if i ≤ n then at0 a i * at0 b (n - i) else 0)
    have q : (if i ≤ n then at0 a i * at0 b (n - i) else 0).natAbs ≤ 2 ^ (m + k) := by
      split
      · exact Nat.le_of_lt (mul_bound (at0_bd ha i) (at0_bd hb _))
      · simp
    omega
theorem prodL_bd {a b : List Int} {m k : Nat} (ha : ∀ c ∈ a, c.natAbs < 2 ^ m) (hb : ∀ c ∈ b, c.natAbs < 2 ^ k) (hl : a.length < 16) : ∀ c ∈ prodL a b, c.natAbs < 2 ^ (m + k + 4) := by
  intro c hc
  unfold prodL at hc
  obtain ⟨n, _, rfl⟩ := List.mem_map.mp hc
  have := prow_bd ha hb n a.length
  rw [Nat.pow_add]
  have p : 0 < 2 ^ (m + k) := Nat.pow_pos (by omega)
  have : a.length * 2 ^ (m + k) < 2 ^ (m + k) * 2 ^ 4 := by
    rw [Nat.mul_comm]
    exact Nat.mul_lt_mul_of_pos_left (by omega) p
  omega
theorem last_at0 {l : List Int} (h : l ≠ []) : l.getLast? = some (at0 l (l.length - 1)) := by
  have : 0 < l.length := List.length_pos_iff.mpr h
  unfold at0
  rw [List.getLast?_eq_getElem?, List.getD_eq_getElem?_getD, List.getElem?_eq_getElem (by omega)]
  rfl
theorem NzL.at {l : List Int} (h : NzL l) : at0 l (l.length - 1) ≠ 0 := by
  obtain ⟨x, e, n⟩ := h
  rw [last_at0 (fun z => by rw [z] at e; cases e)] at e
  cases e; exact n
theorem prow_last {a b : List Int} (ha : a ≠ []) (hb : b ≠ []) : prow a b (a.length + b.length - 2) a.length = at0 a (a.length - 1) * at0 b (b.length - 1) := by
  have la : 0 < a.length := List.length_pos_iff.mpr ha
  have lb : 0 < b.length := List.length_pos_iff.mpr hb
  obtain ⟨k, hk⟩ : ∃ k, a.length = k + 1 := ⟨a.length - 1, by omega⟩
  have z : ∀ i, i ≤ k → prow a b (a.length + b.length - 2) i = 0 := by
    intro i
    induction i with
    | zero => intro _; rfl
    | succ i ih =>
      intro hi
      rw [prow, ih (by omega), if_pos (by omega), at0_out (l := b) (by omega), Int.mul_zero]; rfl
  rw [hk, Nat.add_sub_cancel, ← hk, show prow a b (a.length + b.length - 2) a.length = prow a b (a.length + b.length - 2) (k + 1) by rw [hk], prow, z k (Nat.le_refl _), if_pos (by omega), Int.zero_add, show a.length + b.length - 2 - k = b.length - 1 by omega]
theorem prodL_nz {a b : List Int} (ha : NzL a) (hb : NzL b) : NzL (prodL a b) := by
  have na := ha.ne
  have nb := hb.ne
  have la : 0 < a.length := List.length_pos_iff.mpr na
  have lb : 0 < b.length := List.length_pos_iff.mpr nb
  have ne : prodL a b ≠ [] := fun z => by
    have := prodL_len a b
    rw [z, List.length_nil] at this; omega
  refine ⟨_, last_at0 ne, ?_⟩
  have : at0 (prodL a b) ((prodL a b).length - 1) = prow a b (a.length + b.length - 2) a.length := by
    unfold at0
    rw [prodL_len, List.getD_eq_getElem?_getD]
    unfold prodL
    rw [List.getElem?_map, List.getElem?_range (by omega)]
    rw [show a.length + b.length - 1 - 1 = a.length + b.length - 2 by omega]; rfl
  rw [this, prow_last na nb]
  exact Int.mul_ne_zero ha.at hb.at
theorem NzL.poly {cs : List Int} (h : NzL cs) (h2 : 2 ≤ cs.length) (h9 : cs.length ≤ 9) : PolyI cs := ⟨h2, h9, fun z => by obtain ⟨x, e, n⟩ := h; rw [e] at z; exact n (Option.some.inj z)⟩
theorem PolyI.nz {cs : List Int} (h : PolyI cs) : NzL cs := by
  have ne : cs ≠ [] := fun z => by have := h.1; rw [z] at this; simp at this
  exact ⟨_, last_at0 ne, fun z => h.2.2 (by rw [last_at0 ne, z])⟩
end PM
namespace PM
open PySem PySem.Spec L2 PL
open PyProof.Rows hiding St
theorem cut_last {α : Type} (l : List α) (y : α) : cutG (l ++ [y]) none (some (-1)) = l := by
  have e : HT.sIx (l ++ [y]).length (l ++ [y]).length (some (-1)) = l.length := by
    unfold HT.sIx
    simp
    omega
  unfold cutG
  rw [e]
  have e0 : HT.sIx (l ++ [y]).length 0 none = 0 := rfl
  rw [e0, List.drop_zero, Nat.sub_zero]
  simp
end PM
namespace PM
open PySem PySem.Spec L2 PL
open PyProof.Rows hiding St
theorem lcGo_ints {tgt : PV → Rho → Option Rho} {elt : Rho → R PV} {ρ : Rho} (P : Int → Prop) : ∀ (items : List PV), (∀ p ∈ items, ∃ ρ' a, tgt p ρ = some ρ' ∧ elt ρ' = .ok (.int a) ∧ P a) → ∃ L : List Int, lcGo tgt cYes elt ρ items = .ok (L.map PV.int) ∧ L.length = items.length ∧ ∀ a ∈ L, P a
  | [], _ => ⟨[], rfl, rfl, fun _ z => nomatch z⟩
  | p :: ps, h => by
    obtain ⟨ρ', a, h1, h2, h3⟩ := h p List.mem_cons_self
    obtain ⟨L, i1, i2, i3⟩ := lcGo_ints P ps fun q hq => h q (List.mem_cons_of_mem _ hq)
    refine ⟨a :: L, ?_, by rw [List.length_cons, List.length_cons, i2], fun z hz => ?_⟩
    · rw [lcGo, h1]
      dsimp only [cYes]
      rw [h2]
      dsimp only
      rw [i1]
      rfl
    · rcases List.mem_cons.mp hz with rfl | hz
      · exact h3
      · exact i3 z hz
theorem rngL_mem {lo : Int} {n : Nat} {q : PV} (h : q ∈ rngL lo n) : ∃ j : Nat, j < n ∧ q = .int (lo + j) := by
  unfold rngL at h
  obtain ⟨j, hj, rfl⟩ := List.mem_map.mp h
  exact ⟨j, List.mem_range.mp hj, rfl⟩
theorem tOr_v {t u : Rho → R Bool} {ρ : Rho} (a b : Bool) (h : t ρ = .ok a) (g : u ρ = .ok b) : tOr' t u ρ = .ok (a || b) := by
  rw [tOr_eq, h, bind1, g]; cases a <;> rfl
theorem tAn_v {t u : Rho → R Bool} {ρ : Rho} (a b : Bool) (h : t ρ = .ok a) (g : u ρ = .ok b) : tAn t u ρ = .ok (a && b) := by
  rw [tAn_eq, h, bind1, g]; cases a <;> rfl
end PM
set_option Elab.async false
set_option linter.all false
set_option maxRecDepth 100000
set_option autoImplicit false
namespace PM
open PySem PySem.Spec L2 PL
open PyProof.Rows hiding St
noncomputable def D_grown (G : List PV → R PV) : Rho → Out := (bSeq (sSetO 5 (eD lstP aNil)) (bSeq (sFor (iR rng1 (aCons (eVo 0) aNil)) (gN 6) (bSeq (sSet 7 (e2 addP (eVo 1) (eD tupP (aCons (eV 6) aNil)))) (bSeq (sSet 8 (eD F_word_of (aCons (eV 0) (aCons (eV 3) (aCons (eV 6) aNil))))) (bSeq (sIf (tB1 (e2 eqP (eVo 8) (eC (.str "none")))) (bSeq (sMut 5 appP (eD tupP (aCons (eV 7) (aCons (eC (.str "none")) (aCons (eV 4) aNil))))) bNil) (bSeq (sIf (tB1 (e2 eqP (eVo 8) (eC (.str "one")))) (bSeq (sMut 5 appP (eD tupP (aCons (eV 7) (aCons (eC (.str "one")) (aCons (e2 subP (eVo 4) (eD lenP (aCons (eVo 1) aNil))) aNil))))) bNil) (bSeq (sTo (gT (gsCons (gN 9) (gsCons (gN 10) gsNil))) (eD F_one_on (aCons (eV 0) (aCons (eV 3) (aCons (eV 6) aNil))))) (bSeq (sIf (tB1 (e2 eqP (eD lenP (aCons (eVo 7) aNil)) (eVo 2))) (bSeq (sMut 5 appP (eD tupP (aCons (eV 7) (aCons (eC (.str "open")) (aCons (e2 addP (eVo 4) (eVo 9)) aNil))))) bNil) (bSeq (sMut 5 extP (eD G (aCons (eV 0) (aCons (eV 7) (aCons (eV 2) (aCons (eV 10) (aCons (e2 addP (eVo 4) (eVo 9)) aNil))))))) bNil)) bNil))) bNil)) bNil)))) (bSeq (sRetO 5) bNil)))
noncomputable def F_grown : Nat → List PV → R PV
  | 0 => fun _ => .stuck
  | n + 1 => runF 11 (D_grown (F_grown n))
noncomputable def D_tree_of : Rho → Out := (bSeq (sIf (tNt (tB1 (eD F_is_prime (aCons (eV 0) aNil)))) (bSeq (sRaise "NoPrime") bNil) bNil) (bSeq (sDrop (eD F_want_poly (aCons (eV 1) aNil))) (bSeq (sIf (tOr' (tNt (tB1 (eD F_is_whole (aCons (eV 2) aNil)))) (tOr' (tB1 (e2 ltP (eVo 2) (eC (.int 1)))) (tB1 (e2 gtP (eVo 2) (eC (.int 12)))))) (bSeq (sRaise "NoDepth") bNil) bNil) (bSeq (sTo (gT (gsCons (gN 3) (gsCons (gN 4) gsNil))) (eD F_seen_from (aCons (eV 0) (aCons (eV 1) (aCons (eD tupP aNil) aNil))))) (bSeq (sRet (eD (F_grown 13) (aCons (eV 0) (aCons (eD tupP aNil) (aCons (eV 2) (aCons (eV 4) (aCons (eV 3) aNil))))))) bNil)))))
noncomputable def F_tree_of : List PV → R PV := runF 5 D_tree_of
end PM
set_option Elab.async false
set_option linter.all false
set_option maxRecDepth 100000
set_option autoImplicit false
set_option exponentiation.threshold 20000
namespace PM
open PySem PySem.Spec L2 PL
open PyProof.Rows hiding St
theorem slope_lcM (m : Nat) (hm : m ≤ 1000000) (x : PV) : ∀ (l : List Int) (n : Nat), n + l.length ≤ 1000 → (∀ a ∈ l, a.natAbs < 2 ^ m) →
    lcGo (gT (gsCons (gN 1) (gsCons (gN 2) gsNil))) cYes (e2 mulP (eVo 1) (eVo 2)) [.val x, .un, .un] (enumL n (l.map PV.int)) = .ok ((slp n l).map PV.int)
  | [], n, _, _ => by rw [List.map_nil, enumL]; rfl
  | a :: r, n, hn, hb => by
    rw [List.length_cons] at hn
    have ih := slope_lcM m hm x r (n + 1) (by omega) (fun q hq => hb q (List.mem_cons_of_mem _ hq))
    have mu : mulP (.int (n : Int)) (.int a) = .ok (.int (n * a)) := mulP_ii (okMul_of (m := 100) (n := m + 1) (by omega) (Nat.lt_of_lt_of_le (hb a List.mem_cons_self) (Nat.pow_le_pow_right (by omega) (by omega))) (by omega) (by omega) (by omega))
    have g : gT (gsCons (gN 1) (gsCons (gN 2) gsNil)) (.tup [.int (n : Nat), .int a]) [.val x, .un, .un] = some [.val x, .val (.int n), .val (.int a)] := rfl
    rw [List.map_cons, enumL, lcGo, g]
    dsimp only [cYes]
    rw [show e2 mulP (eVo 1) (eVo 2) [.val x, .val (.int n), .val (.int a)] = .ok (.int (n * a)) by simp only [e2_eq, eVos, eVo0, bind1, mu]]
    dsimp only
    rw [ih, slp, List.map_cons]
def slo (as : List Int) : List Int := (slp 0 as).drop 1
theorem f_slope_ofM {as : List Int} {m : Nat} (hm : m ≤ 1000000) (h : PolyI as) (hb : ∀ a ∈ as, a.natAbs < 2 ^ m) : F_slope_of [.lst (as.map PV.int)] = .ok (.lst ((slo as).map PV.int)) := by
  refine (runF_eq (n := 3) (u := D_slope_of)).trans ?_
  show (D_slope_of [.val (.lst (as.map PV.int)), .un, .un]).res = _
  have L := eLc_ok (vs := [1, 2]) (it := iEn (eV 0)) (ρ := [.val (.lst (as.map PV.int)), .un, .un]) (items := enumL 0 (as.map PV.int)) rfl (by simp [iEn]) (by rw [enum_len]; have := h.2.1; omega) (slope_lcM m hm (.lst (as.map PV.int)) as 0 (by have := h.2.1; omega) hb)
  have w := f_want_poly_ok (f_is_poly_ok h)
  have s1 : slL (.lst ((slp 0 as).map PV.int)) (some 1) none = .ok (.lst ((slo as).map PV.int)) := by
    show R.ok (PV.lst (cutG ((slp 0 as).map PV.int) (some 1) none)) = _
    rw [cut_drop _ _ (by omega), ← List.map_drop]; rfl
  unfold D_slope_of
  refine stpN (ρ' := [.val (.lst (as.map PV.int)), .un, .un]) (by simp [w]) ?_
  simp only [bSeq_eq, sRet_eq, eSl_eq, oSome_eq, oNone_eq, eC_eq, L, bind1, asI_eq, s1, st_ok, then_ret, res_ret]
theorem slp_bd {m : Nat} : ∀ (l : List Int) (n : Nat), n + l.length ≤ 128 → (∀ a ∈ l, a.natAbs < 2 ^ m) → ∀ a ∈ slp n l, a.natAbs < 2 ^ (m + 7)
  | [], _, _, _ => by simp [slp]
  | c :: r, n, hn, h => by
    intro a ha
    rw [List.length_cons] at hn
    rw [slp] at ha
    rcases List.mem_cons.mp ha with rfl | ha
    · rw [Nat.add_comm m 7]; exact mul_bound (by omega) (h c List.mem_cons_self)
    · exact slp_bd r (n + 1) (by omega) (fun z hz => h z (List.mem_cons_of_mem _ hz)) a ha
theorem slo_bd {m : Nat} {l : List Int} (hl : l.length ≤ 9) (h : ∀ a ∈ l, a.natAbs < 2 ^ m) : ∀ a ∈ slo l, a.natAbs < 2 ^ (m + 7) := fun a ha => slp_bd l 0 (by omega) h a (List.mem_of_mem_drop ha)
theorem slo_len (l : List Int) : (slo l).length = l.length - 1 := by unfold slo; rw [List.length_drop, slp_len]
def wNone : Str := "none"
def wOne : Str := "one"
def wOn : Str := "on"
def wOpen : Str := "open"
theorem eq_ss {a b : Str} (ha : PyData.strOk a = true) (hb : PyData.strOk b = true) : eqP (.str a) (.str b) = .ok (.bl (a == b)) := by
  rw [eqP_ok (by rw [okD_str]; exact ha) (by rw [okD_str]; exact hb), eqV_ss]
theorem ne_ss {a b : Str} (ha : PyData.strOk a = true) (hb : PyData.strOk b = true) : neP (.str a) (.str b) = .ok (.bl (!(a == b))) := by
  rw [neP_ok (by rw [okD_str]; exact ha) (by rw [okD_str]; exact hb), eqV_ss]
theorem ok_none : PyData.strOk wNone = true := by decide +kernel
theorem ok_one : PyData.strOk wOne = true := by decide +kernel
theorem ok_on : PyData.strOk wOn = true := by decide +kernel
theorem ok_open : PyData.strOk wOpen = true := by decide +kernel
/-- what a figure is: 0 none, 1 one, 2 on -/
def wrd (p : Int) (qs : List Int) (d : Int) : Str := if ev qs d % p ≠ 0 then wNone else if ev (slo qs) d % p ≠ 0 then wOne else wOn
theorem f_word_of {p d : Int} {qs : List Int} {m : Nat} (hp : 2 ≤ p ∧ p < 127) (hd : d.natAbs < 127) (h : PolyI qs) (hb : ∀ c ∈ qs, c.natAbs < 2 ^ m) (hm : m ≤ 400000) : F_word_of [.int p, .lst (qs.map PV.int), .int d] = .ok (.str (wrd p qs d)) := by
  have b1 : ∀ c ∈ qs, c.natAbs < 2 ^ (m + 1) := fun c hc => Nat.lt_of_lt_of_le (hb c hc) (Nat.pow_le_pow_right (by omega) (by omega))
  have w1 := f_whole_worth (cs := qs) (x := d) (m := m + 1) (k := 7) (by omega) b1 (by omega) (by omega) (by have := h.2.1; omega)
  have s1 := f_slope_ofM (m := m + 1) (by omega) h b1
  have w2 := f_whole_worth (cs := slo qs) (x := d) (m := m + 1 + 7) (k := 7) (by omega) (slo_bd h.2.1 b1) (by omega) (by omega) (by rw [slo_len]; have := h.2.1; omega)
  have m1 := modP_pos (a := ev qs d) (b := p) (by omega)
  have m2 := modP_pos (a := ev (slo qs) d) (b := p) (by omega)
  refine (runF_eq (n := 3) (u := D_word_of)).trans ?_
  show (D_word_of [.val (.int p), .val (.lst (qs.map PV.int)), .val (.int d)]).res = _
  unfold D_word_of wrd
  by_cases z1 : ev qs d % p = 0
  · rw [if_neg (fun q => q z1)]
    refine skp (by simp only [tB1_eq, e2_eq, eD_eq, aCons_eq, aNil_eq, eVs, eV0, eVo0, eC_eq, bind1, w1, m1, neP_ii, z1, asB_eq]; rfl) ?_
    by_cases z2 : ev (slo qs) d % p = 0
    · rw [if_neg (fun q => q z2)]
      refine skp (by simp only [tB1_eq, e2_eq, eD_eq, aCons_eq, aNil_eq, eVs, eV0, eVo0, eC_eq, bind1, s1, w2, m2, neP_ii, z2, asB_eq]; rfl) ?_
      simp only [bSeq_eq, sRet_eq, eC_eq, st_ok, then_ret, res_ret]; rfl
    · have z2' : (ev (slo qs) d % p == 0) = false := by rw [beq_eq_false_iff_ne]; exact z2
      rw [if_pos z2]
      refine ifT (by simp only [tB1_eq, e2_eq, eD_eq, aCons_eq, aNil_eq, eVs, eV0, eVo0, eC_eq, bind1, s1, w2, m2, neP_ii, z2', asB_eq]; rfl) ?_
      simp only [bSeq_eq, sRet_eq, eC_eq, st_ok, then_ret, res_ret]; rfl
  · have z1' : (ev qs d % p == 0) = false := by rw [beq_eq_false_iff_ne]; exact z1
    rw [if_pos z1]
    refine ifT (by simp only [tB1_eq, e2_eq, eD_eq, aCons_eq, aNil_eq, eVs, eV0, eVo0, eC_eq, bind1, w1, m1, neP_ii, z1', asB_eq]; rfl) ?_
    simp only [bSeq_eq, sRet_eq, eC_eq, st_ok, then_ret, res_ret]; rfl
structure Row where
  stem : List Int
  word : Str
  num : Int
def rowV (r : Row) : PV := .tup [.tup (r.stem.map PV.int), .str r.word, .int r.num]
def rowsD (sub : Int → List Row) : Int → Nat → List Row
  | _, 0 => []
  | a, k + 1 => sub a ++ rowsD sub (a + 1) k
noncomputable def nxt (p : Int) (t : Nat × List Int) (d : Int) : Nat × List Int := (t.1 + lfN p (on1 p t.2 d), lfQ p (on1 p t.2 d))
/-- the rows of one figure; m: how many figures may come behind it -/
noncomputable def rowsAt (p : Int) (m : Nat) (deep : List Int → Nat × List Int → List Row) (stem : List Int) (t : Nat × List Int) (d : Int) : List Row :=
  if ev t.2 d % p ≠ 0 then [⟨stem ++ [d], wNone, t.1⟩] else if ev (slo t.2) d % p ≠ 0 then [⟨stem ++ [d], wOne, t.1 - stem.length⟩] else if m = 0 then [⟨stem ++ [d], wOpen, (nxt p t d).1⟩] else deep (stem ++ [d]) (nxt p t d)
noncomputable def gro (p : Int) : Nat → List Int → Nat × List Int → List Row
  | 0, _, _ => []
  | m + 1, stem, t => rowsD (rowsAt p m (gro p m) stem t) 0 p.toNat
theorem rowsD_len {sub : Int → List Row} : ∀ (k : Nat) (a d : Int), a ≤ d → d < a + k → (sub d).length ≤ (rowsD sub a k).length
  | 0, a, d, h1, h2 => by omega
  | k + 1, a, d, h1, h2 => by
    rw [rowsD, List.length_append]
    by_cases e : d = a
    · subst e; omega
    · have := rowsD_len (sub := sub) k (a + 1) d (by omega) (by omega)
      omega
/-- what stands at a stem of the tree -/
structure At (m : Nat) (t : Nat × List Int) : Prop where
  nz : NzL t.2
  l2 : 2 ≤ t.2.length
  l9 : t.2.length ≤ 9
  bd : ∀ c ∈ t.2, c.natAbs < 2 ^ m
theorem At.next {p d : Int} {m : Nat} {t : Nat × List Int} (h : At m t) (hp : 2 ≤ p ∧ p < 127) (hd : d.natAbs < 127) : At (m + 600) (nxt p t d) :=
  ⟨lfQ_nz (by omega) (on1_nz (by omega) h.nz d), by show 2 ≤ (lfQ p _).length; rw [lfQ_len, on1_len]; exact h.l2, by show (lfQ p _).length ≤ 9; rw [lfQ_len, on1_len]; exact h.l9, lfQ_bd (on1_bd (by omega) hd h.l9 h.bd)⟩
theorem grow_loop {p : Int} (hp : 2 ≤ p ∧ p ≤ 97) (M : Nat) (hM : M ≤ 300000) (G : List PV → R PV) (m : Nat) (stem : List Int) (t : Nat × List Int) (hA : At M t) (hs : stem.length ≤ 1000) (dep : Int) (hdep : dep = stem.length + m + 1)
    (hG : ∀ d : Int, 0 ≤ d → d < p → m ≠ 0 → ev t.2 d % p = 0 → ev (slo t.2) d % p = 0 → G [.int p, .tup ((stem ++ [d]).map PV.int), .int dep, .lst ((nxt p t d).2.map PV.int), .int (nxt p t d).1] = .ok (.lst ((gro p m (stem ++ [d]) (nxt p t d)).map rowV))) :
    ∀ (k : Nat) (a : Int) (acc : List Row) (s6 s7 s8 s9 s10 : Slot), 0 ≤ a → a + k ≤ p → acc.length + (rowsD (rowsAt p m (gro p m) stem t) a k).length ≤ 900000 →
    ∃ (s6' s7' s8' s9' s10' : Slot), forL (gN 6) (bSeq (sSet 7 (e2 addP (eVo 1) (eD tupP (aCons (eV 6) aNil)))) (bSeq (sSet 8 (eD F_word_of (aCons (eV 0) (aCons (eV 3) (aCons (eV 6) aNil))))) (bSeq (sIf (tB1 (e2 eqP (eVo 8) (eC (.str "none")))) (bSeq (sMut 5 appP (eD tupP (aCons (eV 7) (aCons (eC (.str "none")) (aCons (eV 4) aNil))))) bNil) (bSeq (sIf (tB1 (e2 eqP (eVo 8) (eC (.str "one")))) (bSeq (sMut 5 appP (eD tupP (aCons (eV 7) (aCons (eC (.str "one")) (aCons (e2 subP (eVo 4) (eD lenP (aCons (eVo 1) aNil))) aNil))))) bNil) (bSeq (sTo (gT (gsCons (gN 9) (gsCons (gN 10) gsNil))) (eD F_one_on (aCons (eV 0) (aCons (eV 3) (aCons (eV 6) aNil))))) (bSeq (sIf (tB1 (e2 eqP (eD lenP (aCons (eVo 7) aNil)) (eVo 2))) (bSeq (sMut 5 appP (eD tupP (aCons (eV 7) (aCons (eC (.str "open")) (aCons (e2 addP (eVo 4) (eVo 9)) aNil))))) bNil) (bSeq (sMut 5 extP (eD G (aCons (eV 0) (aCons (eV 7) (aCons (eV 2) (aCons (eV 10) (aCons (e2 addP (eVo 4) (eVo 9)) aNil))))))) bNil)) bNil))) bNil)) bNil))) (rngL a k)
      [.val (.int p), .val (.tup (stem.map PV.int)), .val (.int dep), .val (.lst (t.2.map PV.int)), .val (.int t.1), .own (acc.map rowV), s6, s7, s8, s9, s10] = .next [.val (.int p), .val (.tup (stem.map PV.int)), .val (.int dep), .val (.lst (t.2.map PV.int)), .val (.int t.1), .own ((acc ++ rowsD (rowsAt p m (gro p m) stem t) a k).map rowV), s6', s7', s8', s9', s10']
  | 0, a, acc, s6, s7, s8, s9, s10, _, _, _ => ⟨s6, s7, s8, s9, s10, by rw [show rngL a 0 = [] from rfl, forL_nil, rowsD, List.append_nil]⟩
  | k + 1, a, acc, s6, s7, s8, s9, s10, ha, hk, hl => by
    rw [rowsD, List.length_append] at hl
    have hap : a < p := by omega
    have an : a.natAbs < 127 := by omega
    have W := f_word_of (p := p) (d := a) (by omega) an (hA.nz.poly hA.l2 hA.l9) hA.bd (by omega)
    have O := f_one_on (p := p) (d := a) (by omega) (by omega) an hA.nz hA.l9 hA.bd (by omega)
    have ap : addP (.tup (stem.map PV.int)) (.tup [.int a]) = .ok (.tup ((stem ++ [a]).map PV.int)) := by rw [addT_ok (by rw [List.length_map, List.length_singleton]; omega), List.map_append]; rfl
    obtain ⟨St, hSt⟩ : ∃ St, St = PV.tup (stem.map PV.int) := ⟨_, rfl⟩
    obtain ⟨Lg, hLg⟩ : ∃ Lg, Lg = PV.tup ((stem ++ [a]).map PV.int) := ⟨_, rfl⟩
    obtain ⟨T, hT⟩ : ∃ T, T = PV.lst (t.2.map PV.int) := ⟨_, rfl⟩
    have le1 : lenP [St] = .ok (.int stem.length) := by rw [hSt]; simp
    have le2 : lenP [Lg] = .ok (.int (stem.length + 1)) := by rw [hLg]; simp
    rw [← hSt, ← hLg] at ap
    rw [← hT] at W O
    -- one turn
    have turn : ∃ s8' s9' s10', (bSeq (sSet 7 (e2 addP (eVo 1) (eD tupP (aCons (eV 6) aNil)))) (bSeq (sSet 8 (eD F_word_of (aCons (eV 0) (aCons (eV 3) (aCons (eV 6) aNil))))) (bSeq (sIf (tB1 (e2 eqP (eVo 8) (eC (.str "none")))) (bSeq (sMut 5 appP (eD tupP (aCons (eV 7) (aCons (eC (.str "none")) (aCons (eV 4) aNil))))) bNil) (bSeq (sIf (tB1 (e2 eqP (eVo 8) (eC (.str "one")))) (bSeq (sMut 5 appP (eD tupP (aCons (eV 7) (aCons (eC (.str "one")) (aCons (e2 subP (eVo 4) (eD lenP (aCons (eVo 1) aNil))) aNil))))) bNil) (bSeq (sTo (gT (gsCons (gN 9) (gsCons (gN 10) gsNil))) (eD F_one_on (aCons (eV 0) (aCons (eV 3) (aCons (eV 6) aNil))))) (bSeq (sIf (tB1 (e2 eqP (eD lenP (aCons (eVo 7) aNil)) (eVo 2))) (bSeq (sMut 5 appP (eD tupP (aCons (eV 7) (aCons (eC (.str "open")) (aCons (e2 addP (eVo 4) (eVo 9)) aNil))))) bNil) (bSeq (sMut 5 extP (eD G (aCons (eV 0) (aCons (eV 7) (aCons (eV 2) (aCons (eV 10) (aCons (e2 addP (eVo 4) (eVo 9)) aNil))))))) bNil)) bNil))) bNil)) bNil)))
        [.val (.int p), .val St, .val (.int dep), .val T, .val (.int t.1), .own (acc.map rowV), .val (.int a), s7, s8, s9, s10] = .next [.val (.int p), .val St, .val (.int dep), .val T, .val (.int t.1), .own ((acc ++ rowsAt p m (gro p m) stem t a).map rowV), .val (.int a), .val Lg, s8', s9', s10'] := by
      have app : ∀ r : Row, rowsAt p m (gro p m) stem t a = [r] → appP (acc.map rowV) (rowV r) = .ok ((acc ++ [r]).map rowV) := fun r e => by
        rw [e, List.length_singleton] at hl
        rw [appP_ok (by rw [List.length_map]; omega), List.map_append]; rfl
      have head : ∀ {k' : Rho → Out} {o : Out}, k' [.val (.int p), .val St, .val (.int dep), .val T, .val (.int t.1), .own (acc.map rowV), .val (.int a), .val Lg, .val (.str (wrd p t.2 a)), s9, s10] = o → bSeq (sSet 7 (e2 addP (eVo 1) (eD tupP (aCons (eV 6) aNil)))) (bSeq (sSet 8 (eD F_word_of (aCons (eV 0) (aCons (eV 3) (aCons (eV 6) aNil))))) k') [.val (.int p), .val St, .val (.int dep), .val T, .val (.int t.1), .own (acc.map rowV), .val (.int a), s7, s8, s9, s10] = o := fun {k' o} h => by
        refine sqS Lg (by simp only [e2_eq, eD_eq, aCons_eq, aNil_eq, eVos, eVo0, eVs, eV0, bind1, tupP1, ap]) ?_
        refine sqS (.str (wrd p t.2 a)) (by simp only [List.set_cons_succ, List.set_cons_zero, eD_eq, aCons_eq, aNil_eq, eVs, eV0, bind1, W]) ?_
        simp only [List.set_cons_succ, List.set_cons_zero]
        exact h
      by_cases z1 : ev t.2 a % p = 0
      · by_cases z2 : ev (slo t.2) a % p = 0
        · have hw : wrd p t.2 a = wOn := by unfold wrd; rw [if_neg (fun q => q z1), if_neg (fun q => q z2)]
          rw [hw] at head
          have q1 : eqP (.str wOn) (.str "none") = .ok (.bl false) := (eq_ss ok_on ok_none).trans rfl
          have q2 : eqP (.str wOn) (.str "one") = .ok (.bl false) := (eq_ss ok_on ok_one).trans rfl
          have gt : ∀ c v : PV, gT (gsCons (gN 9) (gsCons (gN 10) gsNil)) (.tup [c, v]) [.val (.int p), .val St, .val (.int dep), .val T, .val (.int t.1), .own (acc.map rowV), .val (.int a), .val Lg, .val (.str wOn), s9, s10] = some [.val (.int p), .val St, .val (.int dep), .val T, .val (.int t.1), .own (acc.map rowV), .val (.int a), .val Lg, .val (.str wOn), .val c, .val v] := fun _ _ => rfl
          have n1 : ((t.1 : Int) + (lfN p (on1 p t.2 a) : Nat)) = ((nxt p t a).1 : Nat) := by show _ = ((t.1 + lfN p (on1 p t.2 a) : Nat) : Int); omega
          by_cases hm : m = 0
          · have e : rowsAt p m (gro p m) stem t a = [⟨stem ++ [a], wOpen, (nxt p t a).1⟩] := by unfold rowsAt; rw [if_neg (fun q => q z1), if_neg (fun q => q z2), if_pos hm]
            have ap1 := app _ e
            have dp : (((stem.length : Int) + 1) == dep) = true := by rw [beq_iff_eq]; omega
            rw [e]
            refine ⟨.val (.str wOn), .val (.int (lfN p (on1 p t.2 a))), .val (.lst ((lfQ p (on1 p t.2 a)).map PV.int)), head ?_⟩
            have rv : tupP [Lg, .str "open", .int ((t.1 : Int) + (lfN p (on1 p t.2 a) : Nat))] = .ok (rowV ⟨stem ++ [a], wOpen, (nxt p t a).1⟩) := by rw [tupP3, n1, hLg]; rfl
            simp only [bSeq_eq, sIf_eq, tB1_eq, e2_eq, eVos, eVo0, eC_eq, bind1, q1, q2, asB_eq, stB_ok, if_neg Bool.false_ne_true, sTo_eq, eD_eq, aCons_eq, aNil_eq, eVs, eV0, O, st_ok, gt, onR_some, then_next, le2, eqP_ii, dp, if_true, sMut_eq, getOwn0, getOwnS, onOwn_some, addP_ii, rv, ap1, own_ok, List.set_cons_succ, List.set_cons_zero, bNil_eq]
          · have e : rowsAt p m (gro p m) stem t a = gro p m (stem ++ [a]) (nxt p t a) := by unfold rowsAt; rw [if_neg (fun q => q z1), if_neg (fun q => q z2), if_neg hm]
            have g := hG a ha hap hm z1 z2
            rw [e] at hl
            have ex : extP (acc.map rowV) (.lst ((gro p m (stem ++ [a]) (nxt p t a)).map rowV)) = .ok ((acc ++ gro p m (stem ++ [a]) (nxt p t a)).map rowV) := by
              unfold extP
              dsimp only
              rw [if_pos (size_ok (by rw [List.length_map, List.length_map]; omega)), List.map_append]
            have dp : (((stem.length : Int) + 1) == dep) = false := by rw [beq_eq_false_iff_ne]; omega
            have g' : G [.int p, Lg, .int dep, .lst ((lfQ p (on1 p t.2 a)).map PV.int), .int ((t.1 : Int) + (lfN p (on1 p t.2 a) : Nat))] = .ok (.lst ((gro p m (stem ++ [a]) (nxt p t a)).map rowV)) := by rw [n1, hLg]; exact g
            rw [e]
            refine ⟨.val (.str wOn), .val (.int (lfN p (on1 p t.2 a))), .val (.lst ((lfQ p (on1 p t.2 a)).map PV.int)), head ?_⟩
            simp only [bSeq_eq, sIf_eq, tB1_eq, e2_eq, eVos, eVo0, eC_eq, bind1, q1, q2, asB_eq, stB_ok, if_neg Bool.false_ne_true, sTo_eq, eD_eq, aCons_eq, aNil_eq, eVs, eV0, O, st_ok, gt, onR_some, then_next, le2, eqP_ii, dp, sMut_eq, getOwn0, getOwnS, onOwn_some, addP_ii, g', ex, own_ok, List.set_cons_succ, List.set_cons_zero, bNil_eq]
        · have hw : wrd p t.2 a = wOne := by unfold wrd; rw [if_neg (fun q => q z1), if_pos z2]
          rw [hw] at head
          have q1 : eqP (.str wOne) (.str "none") = .ok (.bl false) := (eq_ss ok_one ok_none).trans rfl
          have q2 : eqP (.str wOne) (.str "one") = .ok (.bl true) := (eq_ss ok_one ok_one).trans rfl
          have e : rowsAt p m (gro p m) stem t a = [⟨stem ++ [a], wOne, t.1 - stem.length⟩] := by unfold rowsAt; rw [if_neg (fun q => q z1), if_pos z2]
          have ap1 := app _ e
          have rv : tupP [Lg, .str "one", .int ((t.1 : Int) - stem.length)] = .ok (rowV ⟨stem ++ [a], wOne, t.1 - stem.length⟩) := by rw [tupP3, hLg]; rfl
          rw [e]
          refine ⟨.val (.str wOne), s9, s10, head ?_⟩
          simp only [bSeq_eq, sIf_eq, tB1_eq, e2_eq, eVos, eVo0, eC_eq, bind1, q1, q2, asB_eq, stB_ok, if_neg Bool.false_ne_true, if_true, sMut_eq, getOwn0, getOwnS, onOwn_some, eD_eq, aCons_eq, aNil_eq, eVs, eV0, le1, subP_ii, rv, ap1, st_ok, own_ok, List.set_cons_succ, List.set_cons_zero, then_next, bNil_eq]
      · have hw : wrd p t.2 a = wNone := by unfold wrd; rw [if_pos z1]
        rw [hw] at head
        have q1 : eqP (.str wNone) (.str "none") = .ok (.bl true) := (eq_ss ok_none ok_none).trans rfl
        have e : rowsAt p m (gro p m) stem t a = [⟨stem ++ [a], wNone, t.1⟩] := by unfold rowsAt; rw [if_pos z1]
        have ap1 := app _ e
        have rv : tupP [Lg, .str "none", .int (t.1 : Int)] = .ok (rowV ⟨stem ++ [a], wNone, t.1⟩) := by rw [tupP3, hLg]; rfl
        rw [e]
        refine ⟨.val (.str wNone), s9, s10, head ?_⟩
        simp only [bSeq_eq, sIf_eq, tB1_eq, e2_eq, eVos, eVo0, eC_eq, bind1, q1, asB_eq, stB_ok, if_true, sMut_eq, getOwn0, getOwnS, onOwn_some, eD_eq, aCons_eq, aNil_eq, eVs, eV0, rv, ap1, st_ok, own_ok, List.set_cons_succ, List.set_cons_zero, then_next, bNil_eq]
    obtain ⟨s8', s9', s10', turn⟩ := turn
    obtain ⟨u6, u7, u8, u9, u10, ih⟩ := grow_loop hp M hM G m stem t hA hs dep hdep hG k (a + 1) (acc ++ rowsAt p m (gro p m) stem t a) (.val (.int a)) (.val Lg) s8' s9' s10' (by omega) (by omega) (by rw [List.length_append]; omega)
    refine ⟨u6, u7, u8, u9, u10, ?_⟩
    rw [rowsD, ← List.append_assoc]
    rw [← hSt, ← hT] at ih ⊢
    rw [← ih, rngL_step, forL_cons, gN_eq, onR_some]
    simp only [List.set_cons_succ, List.set_cons_zero]
    exact foN turn
theorem f_grown {p : Int} (hp : 2 ≤ p ∧ p ≤ 97) : ∀ (m : Nat) (n : Nat) (M : Nat) (stem : List Int) (t : Nat × List Int) (dep : Int), m < n → At M t → M + 600 * m ≤ 300000 → stem.length + m ≤ 1000 → dep = stem.length + m + 1 → (gro p (m + 1) stem t).length ≤ 900000 →
    F_grown n [.int p, .tup (stem.map PV.int), .int dep, .lst (t.2.map PV.int), .int t.1] = .ok (.lst ((gro p (m + 1) stem t).map rowV))
  | m, 0, _, _, _, _, h, _, _, _, _, _ => by omega
  | m, n + 1, M, stem, t, dep, hn, hA, hM, hs, hdep, hl => by
    obtain ⟨s6, s7, s8, s9, s10, i⟩ := grow_loop hp M (by omega) (F_grown n) m stem t hA (by omega) dep hdep (fun d d0 d1 hm z1 z2 => by
      obtain ⟨m', rfl⟩ : ∃ m', m = m' + 1 := ⟨m - 1, by omega⟩
      have ln := rowsD_len (sub := rowsAt p (m' + 1) (gro p (m' + 1)) stem t) p.toNat 0 d d0 (by omega)
      have e : rowsAt p (m' + 1) (gro p (m' + 1)) stem t d = gro p (m' + 1) (stem ++ [d]) (nxt p t d) := by unfold rowsAt; rw [if_neg (fun q => q z1), if_neg (fun q => q z2), if_neg (by omega)]
      rw [e] at ln
      have hl' : (rowsD (rowsAt p (m' + 1) (gro p (m' + 1)) stem t) 0 p.toNat).length ≤ 900000 := hl
      exact f_grown hp m' n (M + 600) (stem ++ [d]) (nxt p t d) dep (by omega) (hA.next (by omega) (by omega)) (by omega) (by rw [List.length_append, List.length_singleton]; omega) (by rw [List.length_append, List.length_singleton]; omega) (by omega)) p.toNat 0 [] .un .un .un .un .un (by omega) (by omega) (by
      have hl' : (rowsD (rowsAt p m (gro p m) stem t) 0 p.toNat).length ≤ 900000 := hl
      rw [List.length_nil, Nat.zero_add]; exact hl')
    rw [List.nil_append, List.map_nil] at i
    have rp : rng1 [.int p] = .ok (rngL 0 p.toNat) := rng1_sm (by omega) (by omega)
    refine (runF_eq (n := 11) (u := D_grown (F_grown n))).trans ?_
    show (D_grown (F_grown n) [.val (.int p), .val (.tup (stem.map PV.int)), .val (.int dep), .val (.lst (t.2.map PV.int)), .val (.int t.1), .un, .un, .un, .un, .un, .un]).res = _
    unfold D_grown
    refine stpN (ρ' := [.val (.int p), .val (.tup (stem.map PV.int)), .val (.int dep), .val (.lst (t.2.map PV.int)), .val (.int t.1), .own [], .un, .un, .un, .un, .un]) (by
      simp only [sSetO_eq, eD_eq, aNil_eq, bind1, lstP0, st_ok, asL_l, own_ok, List.set_cons_succ, List.set_cons_zero]) ?_
    refine stpFor (rngL 0 p.toNat) _ (by simp only [iR_eq, aCons_eq, aNil_eq, eVo0, bind1, rp]) i ?_
    simp only [bSeq_eq, sRetO_eq, getOwn0, getOwnS, onOwn_some, then_ret, res_ret]
    rfl
/-- the tree -/
noncomputable def tree (p : Int) (cs : List Int) (d : Nat) : List Row := gro p d [] (lfN p cs, lfQ p cs)
theorem f_tree_of {p : Int} {cs : List Int} {m : Nat} {d : Nat} (hp : p ∈ primesL) (h : NzL cs) (h2 : 2 ≤ cs.length) (h9 : cs.length ≤ 9) (hb : ∀ c ∈ cs, c.natAbs < 2 ^ m) (hm : m ≤ 100000) (d1 : 1 ≤ d) (d12 : d ≤ 12) (hl : (tree p cs d).length ≤ 900000) :
    F_tree_of [.int p, .lst (cs.map PV.int), .int d] = .ok (.lst ((tree p cs d).map rowV)) := by
  have pb := primesL_le p hp
  have hp' : isP (.int p) = true := by simp [isP, hp]
  have w := f_want_poly_ok (f_is_poly_ok (h.poly h2 h9))
  have S := f_seen_from (p := p) (ds := []) (by omega) (by omega) h h9 hb (fun _ z => nomatch z) (by simp; omega)
  have hA : At m (lfN p cs, lfQ p cs) := ⟨lfQ_nz (by omega) h, by show 2 ≤ (lfQ p cs).length; rw [lfQ_len]; exact h2, by show (lfQ p cs).length ≤ 9; rw [lfQ_len]; exact h9, lfQ_bd hb⟩
  obtain ⟨d', rfl⟩ : ∃ d', d = d' + 1 := ⟨d - 1, by omega⟩
  have g := f_grown pb d' 13 m [] (lfN p cs, lfQ p cs) ((d' + 1 : Nat) : Int) (by omega) hA (by omega) (by simp; omega) (by simp) hl
  have S' : F_seen_from [.int p, .lst (cs.map PV.int), .tup []] = .ok (.tup [.int (lfN p cs), .lst ((lfQ p cs).map PV.int)]) := S
  have l1 : decide (((d' + 1 : Nat) : Int) < 1) = false := decide_eq_false (by omega)
  have l2 : decide (12 < ((d' + 1 : Nat) : Int)) = false := decide_eq_false (by omega)
  obtain ⟨C, hC⟩ : ∃ C, C = PV.lst (cs.map PV.int) := ⟨_, rfl⟩
  rw [← hC] at w S' ⊢
  refine (runF_eq (n := 5) (u := D_tree_of)).trans ?_
  show (D_tree_of [.val (.int p), .val C, .val (.int ((d' + 1 : Nat) : Int)), .un, .un]).res = _
  unfold D_tree_of
  refine skp (by simp only [tNt_eq, tB1_eq, eD_eq, aCons_eq, aNil_eq, eV0, bind1, f_is_prime, hp', asB_eq, Bool.not_true]) ?_
  refine stpN (ρ' := [.val (.int p), .val C, .val (.int ((d' + 1 : Nat) : Int)), .un, .un]) (by simp only [sDrop_eq, eD_eq, aCons_eq, aNil_eq, eVs, eV0, bind1, w, st_ok]) ?_
  refine skp (by simp only [tOr_eq, tNt_eq, tB1_eq, e2_eq, eD_eq, aCons_eq, aNil_eq, eVs, eV0, eVos, eVo0, eC_eq, bind1, f_is_whole, isW_int, ltP_ii, gtP_ii, l1, l2, asB_eq, Bool.not_true, if_neg Bool.false_ne_true]) ?_
  refine stpN (ρ' := [.val (.int p), .val C, .val (.int ((d' + 1 : Nat) : Int)), .val (.int (lfN p cs)), .val (.lst ((lfQ p cs).map PV.int))]) (by
    simp only [sTo_eq, eD_eq, aCons_eq, aNil_eq, eVs, eV0, bind1, tupP0, S', st_ok]; rfl) ?_
  have g' : F_grown 13 [.int p, .tup [], .int ((d' + 1 : Nat) : Int), .lst ((lfQ p cs).map PV.int), .int (lfN p cs)] = .ok (.lst ((tree p cs (d' + 1)).map rowV)) := g
  simp only [bSeq_eq, sRet_eq, eD_eq, aCons_eq, aNil_eq, eVs, eV0, bind1, tupP0, g', st_ok, then_ret, res_ret]
end PM
set_option Elab.async false
set_option linter.all false
set_option maxRecDepth 100000
set_option autoImplicit false
namespace PM
open PL (leastI leastI_mem leastI_le)
theorem ev_inj : ∀ (a b : List Int) (N : Int), a.length = b.length → (∀ z, N ≤ z → ev a z = ev b z) → a = b
  | [], [], _, _, _ => rfl
  | [], _ :: _, _, h, _ => by simp at h
  | _ :: _, [], _, h, _ => by simp at h
  | c :: r, c' :: r', N, hl, h => by
    have e : ∀ z, N ≤ z → (c - c') + z * (ev r z - ev r' z) = 0 := fun z hz => by
      have := h z hz
      rw [ev, ev] at this
      grind
    have c0 : c - c' = 0 := by
      obtain ⟨z, hz⟩ : ∃ z, z = max N ((c - c').natAbs + 1 : Nat) := ⟨_, rfl⟩
      have z1 : N ≤ z := by omega
      have z2 : ((c - c').natAbs : Int) < z := by omega
      have := e z z1
      have d : z ∣ (c - c') := ⟨-(ev r z - ev r' z), by grind⟩
      exact Int.eq_zero_of_dvd_of_natAbs_lt_natAbs d (by omega)
    have ih := ev_inj r r' (max N 1) (by simpa using hl) fun z hz => by
      have := e z (by omega)
      rw [c0, Int.zero_add] at this
      rcases Int.mul_eq_zero.mp this with q | q
      · omega
      · omega
    rw [ih, show c = c' by omega]
/-- w + (u + x) G -/
def lin (u : Int) : Int → List Int → List Int
  | w, [] => [w]
  | w, g :: gs => (u * g + w) :: lin u g gs
theorem lin_len (u : Int) : ∀ (w : Int) (gs : List Int), (lin u w gs).length = gs.length + 1
  | _, [] => rfl
  | w, g :: gs => by rw [lin, List.length_cons, lin_len, List.length_cons]
theorem ev_lin (u z : Int) : ∀ (w : Int) (gs : List Int), ev (lin u w gs) z = w + (u + z) * ev gs z
  | w, [] => by simp [lin, ev]
  | w, g :: gs => by rw [lin, ev, ev_lin u z g gs, ev]; grind
theorem shf_split {d : Int} {cs h : List Int} {v : Int} (e : syn d cs = v :: h) : shf d cs.length cs = v :: shf d h.length h := by
  have l := syn_len d cs
  rw [e, List.length_cons] at l
  rw [← l, shf, e]
theorem ev_split {d x : Int} {cs h : List Int} {v : Int} (e : syn d cs = v :: h) : ev cs x = v + (x - d) * ev h x := by
  have := ev_syn d x cs
  rw [e] at this
  exact this
theorem shf_lin {d e : Int} {cs h : List Int} {v : Int} (q : syn d cs = v :: h) : shf e cs.length cs = lin (e - d) v (shf e h.length h) := by
  have l := syn_len d cs
  rw [q, List.length_cons] at l
  refine ev_inj _ _ 0 (by rw [shf_len, lin_len, shf_len, l]) fun z _ => ?_
  rw [ev_shf e z _ cs (by omega), ev_lin, ev_shf e z _ h (by omega), ev_split q]
  grind
theorem is_lin {d : Int} {cs h : List Int} {v : Int} (q : syn d cs = v :: h) : cs = lin (-d) v h := by
  have l := syn_len d cs
  rw [q, List.length_cons] at l
  refine ev_inj _ _ 0 (by rw [lin_len, l]) fun z _ => ?_
  rw [ev_lin, ev_split q]
  grind
theorem at0_cons0 (c : Int) (l : List Int) : at0 (c :: l) 0 = c := rfl
theorem at0_cons (c : Int) (l : List Int) (i : Nat) : at0 (c :: l) (i + 1) = at0 l i := by
  unfold at0
  rw [List.getD_eq_getElem?_getD, List.getElem?_cons_succ, ← List.getD_eq_getElem?_getD]
theorem at0_nil (i : Nat) : at0 [] i = 0 := at0_out (Nat.zero_le _)
/-- the shifted polynomial begins with multiples -/
def Mu (p : Int) (cs : List Int) (d : Int) (m : Nat) : Prop := ∀ i, i < m → at0 (shf d cs.length cs) i % p = 0
theorem lin_mu {p u : Int} (hp : p ∈ primesL) (hu : u % p ≠ 0) : ∀ (gs : List Int) (w : Int) (m : Nat), w % p = 0 → (∀ i, i < m → at0 (lin u w gs) i % p = 0) → ∀ i, i < m → at0 gs i % p = 0
  | [], _, _, _, _, i, _ => by rw [at0_nil]; simp
  | g :: gs, w, 0, _, _, i, hi => by omega
  | g :: gs, w, m + 1, hw, h, i, hi => by
    have h0 := h 0 (by omega)
    rw [lin, at0_cons0] at h0
    have hg : g % p = 0 := by
      refine Classical.byContradiction fun z => prime_mulI hp hu z ?_
      have := Int.sub_emod (u * g + w) w p
      rw [h0, hw] at this
      simpa using this
    cases i with
    | zero => rw [at0_cons0]; exact hg
    | succ i =>
      rw [at0_cons]
      refine lin_mu hp hu gs g m hg (fun j hj => ?_) i (by omega)
      have := h (j + 1) (by omega)
      rw [lin, at0_cons] at this
      exact this
theorem lin_all {p u : Int} : ∀ (gs : List Int) (w : Int), w % p = 0 → (∀ i, at0 gs i % p = 0) → ∀ i, at0 (lin u w gs) i % p = 0
  | [], w, hw, _, 0 => hw
  | [], w, hw, _, i + 1 => by rw [lin, at0_cons, at0_nil]; simp
  | g :: gs, w, hw, h, 0 => by
    have hg := h 0
    rw [at0_cons0] at hg
    rw [lin, at0_cons0, Int.add_emod, Int.mul_emod, hg, hw]; simp
  | g :: gs, w, hw, h, i + 1 => by
    have hg := h 0
    rw [at0_cons0] at hg
    rw [lin, at0_cons]
    exact lin_all gs g hg (fun j => by have := h (j + 1); rw [at0_cons] at this; exact this) i
theorem lin_at (u : Int) : ∀ (gs : List Int) (w : Int) (i : Nat), at0 (lin u w gs) (i + 1) = u * at0 gs (i + 1) + at0 gs i
  | [], w, i => by rw [lin, at0_cons, at0_nil, at0_nil]; simp
  | g :: gs, w, 0 => by
    rw [lin, at0_cons, at0_cons, at0_cons0]
    cases gs with
    | nil => rw [lin, at0_cons0, at0_nil]; simp
    | cons g' gs => rw [lin, at0_cons0, at0_cons0]
  | g :: gs, w, i + 1 => by rw [lin, at0_cons, lin_at u gs g i, at0_cons, at0_cons]
def Dle (p : Int) (cs : List Int) (D : Nat) : Prop := ∀ i, D < i → at0 cs i % p = 0
def No (p : Int) (cs : List Int) : Prop := ∃ i, at0 cs i % p ≠ 0
theorem few_roots {p : Int} (hp : p ∈ primesL) : ∀ (T : Nat) (E : List (Int × Nat)) (cs : List Int) (D : Nat), (E.map fun e => e.2).sum ≤ T → E.Pairwise (fun a b => (b.1 - a.1) % p ≠ 0) → (∀ e ∈ E, Mu p cs e.1 e.2) → No p cs → Dle p cs D → (E.map fun e => e.2).sum ≤ D
  | T, [], cs, D, _, _, _, _, _ => Nat.zero_le _
  | T, (d, 0) :: E, cs, D, hT, hE, hM, hn, hD => by
    rw [List.map_cons, List.sum_cons] at hT ⊢
    have := few_roots hp T E cs D (by omega) (List.pairwise_cons.mp hE).2 (fun e he => hM e (List.mem_cons_of_mem _ he)) hn hD
    omega
  | 0, (d, m + 1) :: E, cs, D, hT, _, _, _, _ => by
    rw [List.map_cons, List.sum_cons] at hT
    have hT' : m + 1 + (E.map fun e => e.2).sum ≤ 0 := hT
    omega
  | T + 1, (d, m + 1) :: E, cs, D, hT, hE, hM, hn, hD => by
    rw [List.map_cons, List.sum_cons] at hT ⊢
    have hT' : m + 1 + (E.map fun e => e.2).sum ≤ T + 1 := hT
    show m + 1 + (E.map fun e => e.2).sum ≤ D
    obtain ⟨hE1, hE2⟩ := List.pairwise_cons.mp hE
    have M0 := hM (d, m + 1) List.mem_cons_self
    obtain ⟨v, h, q⟩ : ∃ v h, syn d cs = v :: h := by
      cases q : syn d cs with
      | nil =>
        have l := syn_len d cs
        rw [q] at l
        have : cs = [] := List.length_eq_zero_iff.mp l.symm
        subst this
        obtain ⟨i, hi⟩ := hn
        rw [at0_nil] at hi
        simp at hi
      | cons v h => exact ⟨v, h, rfl⟩
    have sp := shf_split q
    have v0 : v % p = 0 := by
      have := M0 0 (by show 0 < m + 1; omega)
      rw [show shf (d, m + 1).1 cs.length cs = v :: shf d h.length h from sp, at0_cons0] at this
      exact this
    have li := is_lin q
    have nh : No p h := by
      refine Classical.byContradiction fun z => ?_
      obtain ⟨i, hi⟩ := hn
      refine hi ?_
      rw [li]
      exact lin_all h v v0 (fun j => Classical.byContradiction fun y => z ⟨j, y⟩) i
    have dn : ∀ (j i : Nat), i + j = h.length → D ≤ i → at0 h i % p = 0 := by
      intro j
      induction j with
      | zero => intro i hi _; rw [at0_out (by omega)]; simp
      | succ j ih =>
        intro i hi hD'
        have a := ih (i + 1) (by omega) (by omega)
        have b := hD (i + 1) (by omega)
        rw [li, lin_at] at b
        have := Int.sub_emod (-d * at0 h (i + 1) + at0 h i) (-d * at0 h (i + 1)) p
        rw [b, Int.mul_emod (-d) (at0 h (i + 1)), a, Int.mul_zero, Int.zero_emod, Int.sub_self, Int.zero_emod] at this
        rw [show at0 h i = -d * at0 h (i + 1) + at0 h i - -d * at0 h (i + 1) by omega]
        exact this
    have all : ∀ i, D ≤ i → at0 h i % p = 0 := fun i hi => by
      rcases Nat.lt_or_ge i h.length with g | g
      · exact dn (h.length - i) i (by omega) hi
      · rw [at0_out g]; simp
    have D1 : 1 ≤ D := by
      refine Classical.byContradiction fun z => ?_
      obtain ⟨i, hi⟩ := nh
      exact hi (all i (by omega))
    have ih := few_roots hp T ((d, m) :: E) h (D - 1) (by rw [List.map_cons, List.sum_cons]; show m + _ ≤ T; omega) (List.pairwise_cons.mpr ⟨hE1, hE2⟩) (fun e he => by
      rcases List.mem_cons.mp he with rfl | he
      · intro i hi
        have := M0 (i + 1) (by show i + 1 < m + 1; exact Nat.succ_lt_succ hi)
        rw [show shf (d, m + 1).1 cs.length cs = v :: shf d h.length h from sp, at0_cons] at this
        exact this
      · have Me := hM e (List.mem_cons_of_mem _ he)
        intro i hi
        refine lin_mu hp (hE1 e he) (shf e.1 h.length h) v e.2 v0 (fun j hj => ?_) i hi
        have := Me j hj
        rw [shf_lin q] at this
        exact this) nh (fun i hi => all i (by omega))
    rw [List.map_cons, List.sum_cons] at ih
    have ih' : m + (E.map fun e => e.2).sum ≤ D - 1 := ih
    omega
/-- how often a figure is a root, but for multiples -/
def mt (p : Int) (cs : List Int) (d : Int) : Nat := ((shf d cs.length cs).takeWhile fun c => decide (c % p = 0)).length
theorem take_while_at {p : Int} : ∀ (l : List Int) (i : Nat), i < (l.takeWhile fun c => decide (c % p = 0)).length → at0 l i % p = 0
  | [], i, h => by simp at h
  | c :: l, i, h => by
    by_cases hc : c % p = 0
    · rw [List.takeWhile_cons_of_pos (by simpa using hc)] at h
      cases i with
      | zero => rw [at0_cons0]; exact hc
      | succ i => rw [at0_cons]; exact take_while_at l i (by simpa using h)
    · rw [List.takeWhile_cons_of_neg (by simpa using hc)] at h
      simp at h
theorem take_while_end {p : Int} : ∀ (l : List Int), (l.takeWhile fun c => decide (c % p = 0)).length < l.length → at0 l (l.takeWhile fun c => decide (c % p = 0)).length % p ≠ 0
  | [], h => by simp at h
  | c :: l, h => by
    by_cases hc : c % p = 0
    · rw [List.takeWhile_cons_of_pos (by simpa using hc)] at h ⊢
      rw [List.length_cons] at h ⊢
      rw [at0_cons]
      exact take_while_end l (by simpa using h)
    · rw [List.takeWhile_cons_of_neg (by simpa using hc), List.length_nil, at0_cons0]
      exact hc
theorem mt_mu (p : Int) (cs : List Int) (d : Int) : Mu p cs d (mt p cs d) := fun i hi => take_while_at _ i hi
theorem shf_more (d : Int) : ∀ (n : Nat) (cs : List Int), cs.length ≤ n + 1 → shf d (n + 1) cs = shf d n cs
  | 0, [], _ => rfl
  | 0, [c], _ => by simp [shf, syn]
  | 0, _ :: _ :: _, h => by simp at h
  | n + 1, cs, h => by
    have l := syn_len d cs
    rw [shf]
    conv => rhs; rw [shf]
    cases q : syn d cs with
    | nil => rfl
    | cons v r =>
      rw [q, List.length_cons] at l
      dsimp only
      rw [shf_more d n r (by omega)]
theorem shf_full {d : Int} {cs : List Int} (h : cs ≠ []) : shf d cs.length cs = shf d (cs.length - 1) cs := by
  have : 0 < cs.length := List.length_pos_iff.mpr h
  obtain ⟨n, hn⟩ : ∃ n, cs.length = n + 1 := ⟨cs.length - 1, by omega⟩
  rw [hn]
  exact shf_more d n cs (by omega)
theorem mt_pos {p d : Int} {cs : List Int} (hn : cs ≠ []) (h : ev cs d % p = 0) : 1 ≤ mt p cs d := by
  have e := ev_shf d 0 cs.length cs (by omega)
  rw [Int.add_zero] at e
  unfold mt
  cases q : shf d cs.length cs with
  | nil =>
    have l := shf_len d cs.length cs
    rw [q] at l
    exact absurd (List.length_eq_zero_iff.mp l.symm) hn
  | cons c r =>
    rw [q, ev, Int.zero_mul, Int.add_zero] at e
    rw [List.takeWhile_cons_of_pos (by rw [e]; simpa using h)]
    simp
theorem at0_scl (p : Int) : ∀ (cs : List Int) (b : Int) (i : Nat), at0 (scl p b cs) i = at0 cs i * (b * p ^ i)
  | [], b, i => by rw [scl, at0_nil]; simp
  | c :: r, b, 0 => by rw [scl, at0_cons0, at0_cons0]; simp
  | c :: r, b, i + 1 => by rw [scl, at0_cons, at0_cons, at0_scl p r (b * p) i, Int.pow_succ]; grind
theorem at0_map (f : Int → Int) (h0 : f 0 = 0) : ∀ (cs : List Int) (i : Nat), at0 (cs.map f) i = f (at0 cs i)
  | [], i => by rw [List.map_nil, at0_nil, h0]
  | c :: r, 0 => by rw [List.map_cons, at0_cons0, at0_cons0]
  | c :: r, i + 1 => by rw [List.map_cons, at0_cons, at0_cons, at0_map f h0 r i]
theorem mem_at0 {l : List Int} {c : Int} (h : c ∈ l) : ∃ i, i < l.length ∧ at0 l i = c := by
  obtain ⟨i, hi, e⟩ := List.mem_iff_getElem.mp h
  exact ⟨i, hi, by unfold at0; rw [List.getD_eq_getElem?_getD, List.getElem?_eq_getElem hi, Option.getD_some, e]⟩
/-- seen from a figure the degree is at most how often it is a root -/
theorem on_deg {p d : Int} {cs : List Int} (hp : 2 ≤ p) (h : NzL cs) : Dle p (lfQ p (on1 p cs d)) (mt p cs d) := by
  have n1 := on1_nz hp h d
  have e := lfQ_eq hp n1
  intro i hi
  have P : p ^ lfN p (on1 p cs d) ≠ 0 := Int.pow_ne_zero (by omega)
  have ea : ∀ i, at0 (on1 p cs d) i = p ^ lfN p (on1 p cs d) * at0 (lfQ p (on1 p cs d)) i := fun i => by
    conv => lhs; rw [e]
    exact at0_map (fun q => p ^ lfN p (on1 p cs d) * q) (Int.mul_zero _) _ i
  have eb : ∀ i, at0 (on1 p cs d) i = at0 (shf d cs.length cs) i * p ^ i := fun i => by
    rw [shf_full h.ne]
    unfold on1
    rw [at0_scl, Int.one_mul]
  rcases Nat.lt_or_ge (mt p cs d) (shf d cs.length cs).length with g | g
  · have u := take_while_end (p := p) (shf d cs.length cs) g
    have u' : at0 (shf d cs.length cs) (mt p cs d) % p ≠ 0 := u
    have L : lfN p (on1 p cs d) ≤ mt p cs d := by
      refine Classical.byContradiction fun z => u' ?_
      have a := ea (mt p cs d)
      rw [eb] at a
      obtain ⟨k, hk⟩ : ∃ k, lfN p (on1 p cs d) = mt p cs d + 1 + k := ⟨lfN p (on1 p cs d) - (mt p cs d + 1), by omega⟩
      rw [hk, Int.pow_add, Int.pow_add, Int.pow_one] at a
      have Pm : p ^ mt p cs d ≠ 0 := Int.pow_ne_zero (by omega)
      have : at0 (shf d cs.length cs) (mt p cs d) = p * (p ^ k * at0 (lfQ p (on1 p cs d)) (mt p cs d)) := Int.eq_of_mul_eq_mul_right Pm (by rw [a]; grind)
      rw [this]; exact Int.mul_emod_right _ _
    have a := ea i
    rw [eb] at a
    obtain ⟨k, hk⟩ : ∃ k, i = lfN p (on1 p cs d) + 1 + k := ⟨i - (lfN p (on1 p cs d) + 1), by omega⟩
    have : at0 (lfQ p (on1 p cs d)) i = p * (p ^ k * at0 (shf d cs.length cs) i) := by
      refine Int.eq_of_mul_eq_mul_left P ?_
      rw [← a]
      conv => lhs; rw [show p ^ i = p ^ lfN p (on1 p cs d) * p * p ^ k by rw [hk, Int.pow_add, Int.pow_add, Int.pow_one]]
      grind
    rw [this]; exact Int.mul_emod_right _ _
  · rw [at0_out]
    · simp
    · rw [lfQ_len, on1_len]
      rw [shf_len] at g
      omega
def digE (f : Int → Nat) : Int → Nat → List (Int × Nat)
  | _, 0 => []
  | a, k + 1 => (a, f a) :: digE f (a + 1) k
theorem digE_mem {f : Int → Nat} : ∀ {k : Nat} {a : Int} {e : Int × Nat}, e ∈ digE f a k → a ≤ e.1 ∧ e.1 < a + k ∧ e.2 = f e.1
  | 0, _, _, h => nomatch h
  | k + 1, a, e, h => by
    rw [digE] at h
    rcases List.mem_cons.mp h with rfl | h
    · exact ⟨Int.le_refl _, by show a < _; omega, rfl⟩
    · obtain ⟨h1, h2, h3⟩ := digE_mem h
      exact ⟨by omega, by omega, h3⟩
theorem digE_apart {f : Int → Nat} {p : Int} : ∀ {k : Nat} {a : Int}, 0 ≤ a → a + k ≤ p → (digE f a k).Pairwise (fun x y => (y.1 - x.1) % p ≠ 0)
  | 0, _, _, _ => .nil
  | k + 1, a, ha, hk => by
    rw [digE]
    refine List.pairwise_cons.mpr ⟨fun e he => ?_, digE_apart (by omega) (by omega)⟩
    obtain ⟨h1, h2, _⟩ := digE_mem he
    show (e.1 - a) % p ≠ 0
    rw [Int.emod_eq_of_lt (by omega) (by omega)]
    omega
theorem no_of {p : Int} {cs : List Int} (h : ∃ q ∈ cs, q % p ≠ 0) : No p cs := by
  obtain ⟨q, hq, n⟩ := h
  obtain ⟨i, _, e⟩ := mem_at0 hq
  exact ⟨i, by rw [e]; exact n⟩
theorem gro_few {p : Int} (hp : p ∈ primesL) : ∀ (m : Nat) (stem : List Int) (t : Nat × List Int) (D : Nat), NzL t.2 → No p t.2 → Dle p t.2 D → (gro p (m + 1) stem t).length ≤ p.toNat * (1 + m * D) := by
  have pb := primesL_le p hp
  have key : ∀ (m : Nat) (stem : List Int) (t : Nat × List Int), NzL t.2 → No p t.2 → (∀ d, ev t.2 d % p = 0 → m ≠ 0 → (gro p m (stem ++ [d]) (nxt p t d)).length ≤ p.toNat * (1 + (m - 1) * mt p t.2 d)) →
      ∀ (k : Nat) (a : Int), (rowsD (rowsAt p m (gro p m) stem t) a k).length ≤ k + p.toNat * m * ((digE (mt p t.2) a k).map fun e => e.2).sum := by
    intro m stem t hz hn hd k
    induction k with
    | zero => intro a; simp [rowsD, digE]
    | succ k ih =>
      intro a
      have ih' := ih (a + 1)
      rw [rowsD, List.length_append, digE, List.map_cons, List.sum_cons, Nat.mul_add]
      have one : (rowsAt p m (gro p m) stem t a).length ≤ 1 + p.toNat * m * mt p t.2 a := by
        unfold rowsAt
        by_cases z1 : ev t.2 a % p = 0
        · rw [if_neg (fun q => q z1)]
          by_cases z2 : ev (slo t.2) a % p = 0
          · rw [if_neg (fun q => q z2)]
            by_cases z3 : m = 0
            · rw [if_pos z3, List.length_singleton]; omega
            · rw [if_neg z3]
              have h := hd a z1 z3
              have m1 := mt_pos (p := p) hz.ne z1
              obtain ⟨m', rfl⟩ : ∃ m', m = m' + 1 := ⟨m - 1, by omega⟩
              rw [Nat.add_sub_cancel, Nat.mul_add, Nat.mul_one] at h
              have e : p.toNat * (m' + 1) * mt p t.2 a = p.toNat * (m' * mt p t.2 a) + p.toNat * mt p t.2 a := by rw [Nat.mul_assoc, Nat.succ_mul, Nat.mul_add]
              have : p.toNat * 1 ≤ p.toNat * mt p t.2 a := Nat.mul_le_mul_left _ m1
              omega
          · rw [if_pos z2, List.length_singleton]; omega
        · rw [if_pos z1, List.length_singleton]; omega
      show _ ≤ k + 1 + (p.toNat * m * mt p t.2 a + p.toNat * m * ((digE (mt p t.2) (a + 1) k).map fun e => e.2).sum)
      omega
  intro m
  induction m with
  | zero =>
    intro stem t D hz hn hD
    have := key 0 stem t hz hn (fun _ _ z => absurd rfl z) p.toNat 0
    rw [gro]
    simp only [Nat.mul_zero, Nat.zero_mul, Nat.add_zero, Nat.mul_one] at this ⊢
    exact this
  | succ m ih =>
    intro stem t D hz hn hD
    have K := key (m + 1) stem t hz hn (fun d hd _ => by
      have n1 := on1_nz (p := p) (by omega) hz d
      have := ih (stem ++ [d]) (nxt p t d) (mt p t.2 d) (lfQ_nz (by omega) n1) (no_of (lfQ_no (by omega) n1)) (on_deg (by omega) hz)
      rw [Nat.add_sub_cancel]
      exact this) p.toNat 0
    have F := few_roots hp _ (digE (mt p t.2) 0 p.toNat) t.2 D (Nat.le_refl _) (digE_apart (by omega) (by omega)) (fun e he => by rw [(digE_mem he).2.2]; exact mt_mu _ _ _) hn hD
    have G : p.toNat * (m + 1) * ((digE (mt p t.2) 0 p.toNat).map fun e => e.2).sum ≤ p.toNat * (m + 1) * D := Nat.mul_le_mul_left _ F
    rw [Nat.mul_add, Nat.mul_one, ← Nat.mul_assoc]
    show (rowsD (rowsAt p (m + 1) (gro p (m + 1)) stem t) 0 p.toNat).length ≤ _
    omega
theorem tree_few {p : Int} (hp : p ∈ primesL) {cs : List Int} (h : NzL cs) (h9 : cs.length ≤ 9) {d : Nat} (d12 : d ≤ 12) : (tree p cs d).length ≤ 900000 := by
  have pb := primesL_le p hp
  cases d with
  | zero => simp [tree, gro]
  | succ m =>
    have := gro_few hp m [] (lfN p cs, lfQ p cs) 8 (lfQ_nz (by omega) h) (no_of (lfQ_no (by omega) h)) (fun i hi => by rw [at0_out (by show (lfQ p cs).length ≤ i; rw [lfQ_len]; omega)]; simp)
    have a : p.toNat * (1 + m * 8) ≤ 97 * (1 + 11 * 8) := Nat.mul_le_mul (by omega) (by omega)
    exact Nat.le_trans this (by omega)
end PM
set_option Elab.async false
set_option linter.all false
set_option maxRecDepth 100000
set_option autoImplicit false
namespace PM
open PL (leastI leastI_mem leastI_le)
def Cg (p : Int) : List Int → List Int → Prop
  | [], [] => True
  | a :: as, b :: bs => p ∣ a - b ∧ Cg p as bs
  | _, _ => False
theorem Cg.refl (p : Int) : ∀ l : List Int, Cg p l l
  | [] => trivial
  | a :: l => ⟨by rw [Int.sub_self]; exact ⟨0, by simp⟩, Cg.refl p l⟩
/-- the derivative -/
def dv : List Int → Int → Int
  | [], _ => 0
  | _ :: r, x => ev r x + x * dv r x
theorem seeL_app (p : Int) : ∀ (a b : List Int) (t : Nat × List Int), seeL p t (a ++ b) = seeL p (seeL p t a) b
  | [], b, t => rfl
  | d :: a, b, t => by rw [List.cons_append, seeL, seeL_app p a b, seeL]
theorem see_on (p : Int) (cs s : List Int) (d : Int) : see p cs (s ++ [d]) = nxt p (see p cs s) d := by
  unfold see
  rw [seeL_app, seeL, seeL]; rfl
def On (p : Int) (qs : List Int) (d : Int) : Prop := ev qs d % p = 0 ∧ ev (slo qs) d % p = 0
/-- the way to a stem leads on -/
def Pth (p : Int) (cs : List Int) (s : List Int) : Prop := ∀ a e b, s = a ++ e :: b → (0 ≤ e ∧ e < p) ∧ On p (see p cs a).2 e
theorem Pth.nil {p : Int} {cs : List Int} : Pth p cs [] := fun a e b h => by
  have := congrArg List.length h
  simp at this
theorem Pth.on {p d : Int} {cs s : List Int} (h : Pth p cs s) (hd : 0 ≤ d ∧ d < p) (ho : On p (see p cs s).2 d) : Pth p cs (s ++ [d]) := fun a e b q => by
  rcases List.eq_nil_or_concat b with hb | ⟨b', x, hb⟩
  · subst hb
    have := List.append_inj' q rfl
    obtain ⟨h1, h2⟩ := this
    cases h2
    subst h1
    exact ⟨hd, ho⟩
  · rw [List.concat_eq_append] at hb
    subst hb
    have q' : s ++ [d] = (a ++ e :: b') ++ [x] := by rw [q]; simp
    obtain ⟨h1, _⟩ := List.append_inj' q' rfl
    exact h a e b' h1
theorem Pth.dig {p : Int} {cs s : List Int} (h : Pth p cs s) : ∀ d ∈ s, 0 ≤ d ∧ d < p := fun d hd => by
  obtain ⟨a, b, e⟩ := List.append_of_mem hd
  exact (h a d b e).1
/-- a row: its stem s, d -/
structure RowAt (p : Int) (cs : List Int) (n : Nat) (r : Row) (s : List Int) (d : Int) : Prop where
  st : r.stem = s ++ [d]
  pth : Pth p cs s
  dig : 0 ≤ d ∧ d < p
  len : s.length + 1 ≤ n
  is : (r.word = wNone ∧ r.num = (see p cs s).1 ∧ ev (see p cs s).2 d % p ≠ 0) ∨ (r.word = wOne ∧ r.num = (see p cs s).1 - s.length ∧ ev (see p cs s).2 d % p = 0 ∧ ev (slo (see p cs s).2) d % p ≠ 0) ∨ (r.word = wOpen ∧ r.num = (see p cs (s ++ [d])).1 ∧ On p (see p cs s).2 d ∧ s.length + 1 = n)
theorem rowsD_mem {sub : Int → List Row} : ∀ {k : Nat} {a : Int} {r : Row}, r ∈ rowsD sub a k → ∃ d, a ≤ d ∧ d < a + k ∧ r ∈ sub d
  | 0, _, _, h => nomatch h
  | k + 1, a, r, h => by
    rw [rowsD] at h
    rcases List.mem_append.mp h with h | h
    · exact ⟨a, Int.le_refl _, by omega, h⟩
    · obtain ⟨d, h1, h2, h3⟩ := rowsD_mem h
      exact ⟨d, by omega, by omega, h3⟩
theorem gro_row {p : Int} {cs : List Int} : ∀ (m : Nat) (stem : List Int) (r : Row), r ∈ gro p m stem (see p cs stem) → Pth p cs stem → ∃ s d, RowAt p cs (stem.length + m) r s d ∧ ∃ z, s = stem ++ z
  | 0, _, _, h, _ => nomatch h
  | m + 1, stem, r, h, hp => by
    obtain ⟨d, h1, h2, h3⟩ := rowsD_mem (show r ∈ rowsD (rowsAt p m (gro p m) stem (see p cs stem)) 0 p.toNat from h)
    have hd : 0 ≤ d ∧ d < p := by omega
    unfold rowsAt at h3
    by_cases z1 : ev (see p cs stem).2 d % p = 0
    · rw [if_neg (fun q => q z1)] at h3
      by_cases z2 : ev (slo (see p cs stem).2) d % p = 0
      · rw [if_neg (fun q => q z2)] at h3
        have p' := hp.on hd ⟨z1, z2⟩
        by_cases z3 : m = 0
        · rw [if_pos z3] at h3
          rw [List.mem_singleton.mp h3]
          subst z3
          exact ⟨stem, d, ⟨rfl, hp, hd, by omega, .inr (.inr ⟨rfl, by rw [see_on], ⟨z1, z2⟩, rfl⟩)⟩, [], by simp⟩
        · rw [if_neg z3, ← see_on] at h3
          obtain ⟨s, e, hR, z, hz⟩ := gro_row m (stem ++ [d]) r h3 p'
          refine ⟨s, e, ?_, d :: z, by rw [hz]; simp⟩
          have : (stem ++ [d]).length + m = stem.length + (m + 1) := by rw [List.length_append, List.length_singleton]; omega
          rw [this] at hR
          exact hR
      · rw [if_pos z2] at h3
        rw [List.mem_singleton.mp h3]
        exact ⟨stem, d, ⟨rfl, hp, hd, by omega, .inr (.inl ⟨rfl, rfl, z1, z2⟩)⟩, [], by simp⟩
    · rw [if_pos z1] at h3
      rw [List.mem_singleton.mp h3]
      exact ⟨stem, d, ⟨rfl, hp, hd, by omega, .inl ⟨rfl, rfl, z1⟩⟩, [], by simp⟩
theorem tree_row {p : Int} {cs : List Int} {n : Nat} {r : Row} (h : r ∈ tree p cs n) : ∃ s d, RowAt p cs n r s d := by
  obtain ⟨s, d, hR, _⟩ := gro_row n [] r h Pth.nil
  rw [List.length_nil, Nat.zero_add] at hR
  exact ⟨s, d, hR⟩
theorem RowAt.digs {p : Int} {cs : List Int} {n : Nat} {r : Row} {s : List Int} {d : Int} (h : RowAt p cs n r s d) : ∀ e ∈ r.stem, 0 ≤ e ∧ e < p := fun e he => by
  rw [h.st] at he
  rcases List.mem_append.mp he with he | he
  · exact h.pth.dig e he
  · rw [List.mem_singleton.mp he]; exact h.dig
theorem RowAt.slen {p : Int} {cs : List Int} {n : Nat} {r : Row} {s : List Int} {d : Int} (h : RowAt p cs n r s d) : r.stem.length = s.length + 1 := by rw [h.st, List.length_append, List.length_singleton]
theorem row_word {p : Int} {cs : List Int} {n : Nat} {r : Row} {s : List Int} {d : Int} (R : RowAt p cs n r s d) : r.word = wNone ∨ r.word = wOne ∨ r.word = wOpen := by
  rcases R.is with ⟨w, _⟩ | ⟨w, _⟩ | ⟨w, _⟩
  · exact .inl w
  · exact .inr (.inl w)
  · exact .inr (.inr w)
end PM
set_option Elab.async false
set_option linter.all false
set_option maxRecDepth 100000
set_option autoImplicit false
set_option exponentiation.threshold 20000
namespace PM
open PySem PySem.Spec L2 PL
open PyProof.Rows hiding St
theorem ixP_lastT (l : List PV) (x : PV) : ixP (.tup (l ++ [x])) (.int (-1)) = .ok x := by
  have := ixP_last l x
  unfold ixP at this ⊢
  exact this
theorem slP_init (l : List Int) (y : Int) : slP (.tup ((l ++ [y]).map PV.int)) none (some (-1)) = .ok (.tup (l.map PV.int)) := by
  rw [slP_t, List.map_append]
  exact congrArg (fun z => R.ok (PV.tup z)) (cut_last _ _)
theorem rise_loop {p : Int} (hp : 2 ≤ p ∧ p ≤ 97) (x y : PV) : ∀ (ds : List Int) (t : Nat × List Int) (M : Nat) (s5 s6 : Slot), At M t → M + 600 * ds.length ≤ 300000 → (∀ a e b, ds = a ++ e :: b → (0 ≤ e ∧ e < p) ∧ On p (seeL p t a).2 e) →
    ∃ s5' s6', forL (gN 5) (bSeq (sIf (tB1 (e2 neP (eD F_word_of (aCons (eV 0) (aCons (eV 4) (aCons (eV 5) aNil)))) (eC (.str "on")))) (bSeq (sRaise "NoRoot") bNil) bNil) (bSeq (sTo (gT (gsCons (gN 6) (gsCons (gN 4) gsNil))) (eD F_one_on (aCons (eV 0) (aCons (eV 4) (aCons (eV 5) aNil))))) (bSeq (sAug 3 (intP (fun _ _ => true) fun a b => .int (a + b)) (eVo 6)) bNil))) (ds.map PV.int) [.val (.int p), .val x, .val y, .val (.int t.1), .val (.lst (t.2.map PV.int)), s5, s6] = .next [.val (.int p), .val x, .val y, .val (.int (seeL p t ds).1), .val (.lst ((seeL p t ds).2.map PV.int)), s5', s6']
  | [], t, M, s5, s6, _, _, _ => ⟨s5, s6, by rw [List.map_nil, forL_nil, seeL]⟩
  | d :: ds, t, M, s5, s6, hA, hM, h => by
    rw [List.length_cons] at hM
    obtain ⟨hd, ho⟩ := h [] d ds rfl
    have ho' : On p t.2 d := ho
    have W := f_word_of (p := p) (d := d) (by omega) (by omega) (hA.nz.poly hA.l2 hA.l9) hA.bd (by omega)
    have wo : wrd p t.2 d = wOn := by unfold wrd; rw [if_neg (fun q => q ho'.1), if_neg (fun q => q ho'.2)]
    rw [wo] at W
    have q1 : neP (.str wOn) (.str "on") = .ok (.bl false) := (ne_ss ok_on ok_on).trans rfl
    have O := f_one_on (p := p) (d := d) (by omega) (by omega) (by omega) hA.nz hA.l9 hA.bd (by omega)
    obtain ⟨s5', s6', ih⟩ := rise_loop hp x y ds (nxt p t d) (M + 600) (.val (.int d)) (.val (.int (lfN p (on1 p t.2 d)))) (hA.next (by omega) (by omega)) (by omega) (fun a e b q => h (d :: a) e b (by rw [q]; rfl))
    refine ⟨s5', s6', ?_⟩
    rw [seeL]
    have ih' : forL (gN 5) _ (ds.map PV.int) [.val (.int p), .val x, .val y, .val (.int ((t.1 + lfN p (on1 p t.2 d) : Nat) : Int)), .val (.lst ((lfQ p (on1 p t.2 d)).map PV.int)), .val (.int d), .val (.int (lfN p (on1 p t.2 d)))] = .next [.val (.int p), .val x, .val y, .val (.int (seeL p (t.1 + lfN p (on1 p t.2 d), lfQ p (on1 p t.2 d)) ds).1), .val (.lst ((seeL p (t.1 + lfN p (on1 p t.2 d), lfQ p (on1 p t.2 d)) ds).2.map PV.int)), s5', s6'] := ih
    rw [← ih', List.map_cons, forL_cons, gN_eq, onR_some]
    have g : gT (gsCons (gN 6) (gsCons (gN 4) gsNil)) (.tup [.int (lfN p (on1 p t.2 d)), .lst ((lfQ p (on1 p t.2 d)).map PV.int)]) [.val (.int p), .val x, .val y, .val (.int t.1), .val (.lst (t.2.map PV.int)), .val (.int d), s6] = some [.val (.int p), .val x, .val y, .val (.int t.1), .val (.lst ((lfQ p (on1 p t.2 d)).map PV.int)), .val (.int d), .val (.int (lfN p (on1 p t.2 d)))] := rfl
    simp only [List.set_cons_succ, List.set_cons_zero]
    refine foN ?_
    refine sqK (by simp only [tB1_eq, e2_eq, eD_eq, aCons_eq, aNil_eq, eVs, eV0, eC_eq, bind1, W, q1, asB_eq]) ?_
    simp only [bSeq_eq, sTo_eq, eD_eq, aCons_eq, aNil_eq, eVs, eV0, bind1, O, st_ok, g, onR_some, then_next]
    rw [sAug_at (x := .int t.1) (y := .int (lfN p (on1 p t.2 d))) (z := .int (t.1 + lfN p (on1 p t.2 d))) rfl (by simp only [eVos, eVo0]) iadd_ii, then_next]
    simp only [List.set_cons_succ, List.set_cons_zero, bNil_eq, Int.natCast_add]
theorem f_is_stem {p : Int} {ds : List Int} (h1 : 1 ≤ ds.length) (h12 : ds.length ≤ 12) (hd : ∀ d ∈ ds, 0 ≤ d ∧ d < p) : F_is_stem [.int p, .tup (ds.map PV.int)] = .ok (.bl true) := by
  obtain ⟨D, hD⟩ : ∃ D, D = PV.tup (ds.map PV.int) := ⟨_, rfl⟩
  have it : isiP "tuple" D = .ok (.bl true) := by rw [isi_tuple, hD]; rfl
  have ln : lenP [D] = .ok (.int ds.length) := by rw [hD]; simp
  have l1 : decide ((ds.length : Int) < 1) = false := decide_eq_false (by omega)
  have l2 : decide (12 < (ds.length : Int)) = false := decide_eq_false (by omega)
  have go : ∀ l : List Int, (∀ d ∈ l, 0 ≤ d ∧ d < p) → lcGo (gN 2) cYes (eAn (eD F_is_whole (aCons (eV 2) aNil)) (eChain leP ltP (eC (.int 0)) (eVo 2) (eVo 0))) [.val (.int p), .val D, .un] (l.map PV.int) = .ok ((l.map fun _ => true).map PV.bl) := by
    intro l
    induction l with
    | nil => intro _; rfl
    | cons a l ih =>
      intro h
      have ha := h a List.mem_cons_self
      have i := ih fun z hz => h z (List.mem_cons_of_mem _ hz)
      have g1 : decide (0 ≤ a) = true := decide_eq_true ha.1
      have g2 : decide (a < p) = true := decide_eq_true ha.2
      rw [List.map_cons, lcGo, show gN 2 (.int a) [.val (.int p), .val D, .un] = some [.val (.int p), .val D, .val (.int a)] from rfl]
      dsimp only [cYes]
      rw [show eAn (eD F_is_whole (aCons (eV 2) aNil)) (eChain leP ltP (eC (.int 0)) (eVo 2) (eVo 0)) [.val (.int p), .val D, .val (.int a)] = .ok (.bl true) by
        simp only [eAn_eq, eChain_eq, eD_eq, aCons_eq, aNil_eq, eVs, eV0, eVos, eVo0, eC_eq, bind1, f_is_whole, isW_int, asB_eq, if_true, leP_ii, ltP_ii, g1, g2]]
      dsimp only
      rw [i]; rfl
  have L := eLc_ok (vs := [2]) (it := iS (eV 1)) (ρ := [.val (.int p), .val D, .un]) (items := ds.map PV.int) rfl (by rw [hD]; simp only [iS_eq, eVs, eV0, bind1, asS_t]) (by rw [List.length_map]; omega) (go ds hd)
  have al : allP [.lst ((ds.map fun _ => true).map PV.bl)] = .ok (.bl true) := by unfold allP; dsimp only; rw [asBs_of]; simp
  rw [← hD]
  refine (runF_eq (n := 3) (u := D_is_stem)).trans ?_
  show (D_is_stem [.val (.int p), .val D, .un]).res = _
  unfold D_is_stem
  refine skp (by simp only [tOr_eq, tNt_eq, tB1_eq, e1_eq, e2_eq, eD_eq, aCons_eq, aNil_eq, eVos, eVo0, eC_eq, bind1, it, ln, ltP_ii, gtP_ii, l1, l2, asB_eq, Bool.not_true, if_neg Bool.false_ne_true]) ?_
  simp only [bSeq_eq, sRet_eq, eD_eq, aCons_eq, aNil_eq, L, bind1, al, st_ok, then_ret, res_ret]
theorem f_rise_of {p : Int} {cs : List Int} {n : Nat} {r : Row} {s : List Int} {d : Int} (hp : 2 ≤ p ∧ p ≤ 97) (h : NzL cs) (h2 : 2 ≤ cs.length) (h9 : cs.length ≤ 9) (hb : ∀ c ∈ cs, c.natAbs < 2 ^ 300) (hn : n ≤ 12) (Ro : RowAt p cs n r s d) (hw : r.word = wOne) :
    F_rise_of [.int p, .lst (cs.map PV.int), .tup (r.stem.map PV.int)] = .ok (.int r.num) := by
  have sl := Ro.slen
  have rl := Ro.len
  have hA : At 300 (lfN p cs, lfQ p cs) := ⟨lfQ_nz (by omega) h, by show 2 ≤ (lfQ p cs).length; rw [lfQ_len]; exact h2, by show (lfQ p cs).length ≤ 9; rw [lfQ_len]; exact h9, lfQ_bd hb⟩
  have is := f_is_stem (p := p) (ds := r.stem) (by omega) (by omega) Ro.digs
  have S := f_seen_from (p := p) (ds := []) (by omega) (by omega) h h9 hb (fun _ z => nomatch z) (by simp)
  have S' : F_seen_from [.int p, .lst (cs.map PV.int), .tup []] = .ok (.tup [.int (lfN p cs), .lst ((lfQ p cs).map PV.int)]) := S
  have W : F_word_of [.int p, .lst ((see p cs s).2.map PV.int), .int d] = .ok (.str wOne) := by
    have Se := see_ok (p := p) (by omega) h s
    have bd := seeL_bd (p := p) (by omega) s (lfN p cs, lfQ p cs) 300 (fun e he => by have := Ro.pth.dig e he; omega) (by rw [lfQ_len]; exact h9) (lfQ_bd hb)
    have := f_word_of (p := p) (d := d) (by omega) (by have := Ro.dig; omega) (Se.nz.poly (by rw [Se.len]; exact h2) (by rw [Se.len]; exact h9)) bd (by omega)
    rw [this]
    rcases Ro.is with ⟨w, _⟩ | ⟨_, _, hu, hs⟩ | ⟨w, _⟩
    · rw [hw] at w; exact absurd w (by decide +kernel)
    · unfold wrd; rw [if_neg (fun q => q hu), if_pos hs]
    · rw [hw] at w; exact absurd w (by decide +kernel)
  have nm : ((see p cs s).1 : Int) - (r.stem.length : Int) + 1 = r.num := by
    rcases Ro.is with ⟨w, _⟩ | ⟨_, hn, hu, hs⟩ | ⟨w, _⟩
    · rw [hw] at w; exact absurd w (by decide +kernel)
    · omega
    · rw [hw] at w; exact absurd w (by decide +kernel)
  obtain ⟨C, hC⟩ : ∃ C, C = PV.lst (cs.map PV.int) := ⟨_, rfl⟩
  obtain ⟨D, hD⟩ : ∃ D, D = PV.tup (r.stem.map PV.int) := ⟨_, rfl⟩
  have ci : slP D none (some (-1)) = .ok (.tup (s.map PV.int)) := by rw [hD, Ro.st]; exact slP_init s d
  have la : ixP D (.int (-1)) = .ok (.int d) := by rw [hD, Ro.st, List.map_append]; exact ixP_lastT _ _
  have ln : lenP [D] = .ok (.int r.stem.length) := by rw [hD]; simp
  rw [← hC] at S'
  rw [← hD] at is
  obtain ⟨s5, s6, i⟩ := rise_loop hp C D s (lfN p cs, lfQ p cs) 300 .un .un hA (by omega) (fun a e b q => Ro.pth a e b q)
  have q2 : neP (.str wOne) (.str "one") = .ok (.bl false) := (ne_ss ok_one ok_one).trans rfl
  rw [← hC, ← hD]
  refine (runF_eq (n := 7) (u := D_rise_of)).trans ?_
  show (D_rise_of [.val (.int p), .val C, .val D, .un, .un, .un, .un]).res = _
  unfold D_rise_of
  refine skp (by simp only [tNt_eq, tB1_eq, eD_eq, aCons_eq, aNil_eq, eVs, eV0, bind1, is, asB_eq, Bool.not_true]) ?_
  refine stpN (ρ' := [.val (.int p), .val C, .val D, .val (.int (lfN p cs)), .val (.lst ((lfQ p cs).map PV.int)), .un, .un]) (by
    simp only [sTo_eq, eD_eq, aCons_eq, aNil_eq, eVs, eV0, bind1, tupP0, S', st_ok]; rfl) ?_
  refine stpFor (s.map PV.int) _ (by simp only [iS_eq, eSl_eq, oNone_eq, oSome_eq, e1_eq, eVos, eVo0, eC_eq, bind1, negP_eq, asI_eq, ci, asS_t]) i ?_
  have W' : F_word_of [.int p, .lst ((seeL p (lfN p cs, lfQ p cs) s).2.map PV.int), .int d] = .ok (.str wOne) := W
  refine skp (by simp only [tB1_eq, e2_eq, e1_eq, eD_eq, aCons_eq, aNil_eq, eVs, eV0, eVos, eVo0, eC_eq, bind1, negP_eq, la, W', q2, asB_eq]) ?_
  simp only [bSeq_eq, sRet_eq, e2_eq, eD_eq, aCons_eq, aNil_eq, eVos, eVo0, eC_eq, bind1, ln, subP_ii, addP_ii, st_ok, then_ret, res_ret]
  exact congrArg (fun z => R.ok (PV.int z)) nm
end PM
set_option Elab.async false
set_option linter.all false
set_option maxRecDepth 100000
set_option autoImplicit false
set_option exponentiation.threshold 20000
namespace PM
open PySem PySem.Spec L2 PL
open PyProof.Rows hiding St
theorem ok_stem (l : List Int) : okD 30 (.tup (l.map PV.int)) = true := by rw [okD_tup]; simp
theorem lc_rows {α : Type} {tgt : PV → Rho → Option Rho} {elt : Rho → R PV} {ρ : Rho} (f g : α → PV) : ∀ l : List α, (∀ r ∈ l, ∃ ρ', tgt (f r) ρ = some ρ' ∧ elt ρ' = .ok (g r)) → lcGo tgt cYes elt ρ (l.map f) = .ok (l.map g)
  | [], _ => rfl
  | r :: l, h => by
    obtain ⟨ρ', h1, h2⟩ := h r List.mem_cons_self
    have ih := lc_rows f g l fun q hq => h q (List.mem_cons_of_mem _ hq)
    rw [List.map_cons, List.map_cons]
    unfold lcGo
    rw [h1]
    dsimp only [cYes]
    rw [h2]
    dsimp only
    rw [ih]
theorem lc_rowsF {α : Type} {tgt : PV → Rho → Option Rho} {test : Rho → R Bool} {elt : Rho → R PV} {ρ : Rho} (f g : α → PV) (c : α → Bool) : ∀ l : List α, (∀ r ∈ l, ∃ ρ', tgt (f r) ρ = some ρ' ∧ test ρ' = .ok (c r) ∧ (c r = true → elt ρ' = .ok (g r))) → lcGo tgt test elt ρ (l.map f) = .ok ((l.filter c).map g)
  | [], _ => rfl
  | r :: l, h => by
    obtain ⟨ρ', h1, h2, h3⟩ := h r List.mem_cons_self
    have ih := lc_rowsF f g c l fun q hq => h q (List.mem_cons_of_mem _ hq)
    rw [List.map_cons]
    unfold lcGo
    rw [h1]
    dsimp only
    rw [h2]
    cases hc : c r with
    | false => dsimp only; rw [ih, List.filter_cons_of_neg (by rw [hc]; decide)]
    | true =>
      dsimp only
      rw [h3 hc]
      dsimp only
      rw [ih, List.filter_cons_of_pos hc, List.map_cons]
theorem ok_rows {l : List Row} (h : ∀ r ∈ l, r.word = wNone ∨ r.word = wOne ∨ r.word = wOpen) : okD 30 (.lst (l.map rowV)) = true := by
  rw [okD_lst, List.all_map, List.all_eq_true]
  intro r hr
  show okD 29 (rowV r) = true
  have := h r hr
  have so : PyData.strOk r.word = true := by rcases h r hr with e | e | e <;> rw [e] <;> first | exact ok_none | exact ok_one | exact ok_open
  unfold rowV
  simp [so]
theorem rowV0 (r : Row) : ixP (rowV r) (.int 0) = .ok (.tup (r.stem.map PV.int)) := by unfold rowV; simp
theorem rowV1 (r : Row) : ixP (rowV r) (.int 1) = .ok (.str r.word) := by unfold rowV; simp
theorem stemL (l : List Int) : lenP [.tup (l.map PV.int)] = .ok (.int l.length) := by simp
end PM
set_option Elab.async false
set_option linter.all false
set_option maxRecDepth 100000
set_option autoImplicit false
set_option exponentiation.threshold 20000
namespace PM
open PySem PySem.Spec L2 PL
open PyProof.Rows hiding St
end PM
set_option Elab.async false
set_option linter.all false
set_option maxRecDepth 100000
set_option autoImplicit false
set_option exponentiation.threshold 20000
namespace PM
open PySem PySem.Spec L2 PL
open PyProof.Rows hiding St
def sq2 (ds : List Int) : Bool := (ds.drop 1).take 2 == ([0, 0] : List Int).take (ds.length - 1)
theorem sl2 (ds : List Int) (h : ds ≠ []) : ∃ a b : PV, slP (.tup (ds.map PV.int)) (some 1) (some 3) = .ok a ∧ slP (.tup [.int 0, .int 0]) none (some ((ds.length : Int) - 1)) = .ok b ∧ neP a b = .ok (.bl (!sq2 ds)) ∧ eqP a b = .ok (.bl (sq2 ds)) := by
  have l1 : 1 ≤ ds.length := List.length_pos_iff.mpr h
  have e1 : slP (.tup (ds.map PV.int)) (some 1) (some 3) = .ok (.tup (((ds.drop 1).take 2).map PV.int)) := by
    rw [slP_t, cut_both _ _ _ (by omega) (by omega), ← List.map_drop, ← List.map_take]; rfl
  have e2' : slP (.tup [.int 0, .int 0]) none (some ((ds.length : Int) - 1)) = .ok (.tup ((([0, 0] : List Int).take (ds.length - 1)).map PV.int)) := by
    rw [slP_t, cut_take _ _ (by omega), show ((ds.length : Int) - 1).toNat = ds.length - 1 by omega, List.map_take]; rfl
  refine ⟨_, _, e1, e2', ?_, ?_⟩
  · rw [neP_ok (ok_stem _) (ok_stem _), eqV_tt, eqVs_ints]; rfl
  · rw [eqP_ok (ok_stem _) (ok_stem _), eqV_tt, eqVs_ints]; rfl
end PM
set_option Elab.async false
set_option linter.all false
set_option maxRecDepth 100000
set_option autoImplicit false
set_option exponentiation.threshold 20000
namespace PM
open PySem PySem.Spec L2 PL
open PyProof.Rows hiding St
end PM
set_option Elab.async false
set_option linter.all false
set_option maxRecDepth 100000
set_option autoImplicit false
set_option exponentiation.threshold 20000
namespace PM
open PySem PySem.Spec L2 PL
open PyProof.Rows hiding St
end PM
set_option Elab.async false
set_option linter.all false
set_option maxRecDepth 100000
set_option autoImplicit false
set_option exponentiation.threshold 20000
namespace PM
open PySem PySem.Spec L2 PL
open PyProof.Rows hiding St
theorem rzX {c : Str} {k : Rho → Out} {ρ : Rho} : (bSeq (bSeq (sRaise c) bNil) k ρ).res = .exc c := rfl
theorem drpX {f : Rho → R PV} {k : Rho → Out} {ρ : Rho} {c : Str} (h : f ρ = .exc c) : (bSeq (sDrop f) k ρ).res = .exc c := by rw [bSeq_eq, sDrop_eq, h]; rfl
theorem stpX {i : Nat} {f : Rho → R PV} {k : Rho → Out} {ρ : Rho} {c : Str} (h : f ρ = .exc c) : (bSeq (sSet i f) k ρ).res = .exc c := by rw [bSeq_eq, sSet_eq, h]; rfl
theorem forX {it : Rho → R (List PV)} {tgt : PV → Rho → Option Rho} {body k : Rho → Out} {ρ ρ' : Rho} {c : Str} (items : List PV) (hi : it ρ = .ok items) (hf : forL tgt body items ρ = .exc c ρ') : (bSeq (sFor it tgt body) k ρ).res = .exc c := by rw [bSeq_eq, sFor_eq, hi, stL_ok, hf]; rfl
/-- a number that is no such length -/
def NoLen (lo hi : Int) (d : PV) : Prop := isW d = false ∨ ∃ n : Int, d = .int n ∧ (n < lo ∨ hi < n)
theorem f_tree_noP {a b c : PV} (h : isP a = false) : F_tree_of [a, b, c] = .exc "NoPrime" := by
  refine (runF_eq (n := 5) (u := D_tree_of)).trans ?_
  show (D_tree_of [.val a, .val b, .val c, .un, .un]).res = _
  unfold D_tree_of
  exact ifT (by simp only [tNt_eq, tB1_eq, eD_eq, aCons_eq, aNil_eq, eV0, bind1, f_is_prime, h, asB_eq, Bool.not_false]) rzX
theorem f_tree_noQ {a b c : PV} (h : isP a = true) (hb : F_is_poly [b] = .ok (.bl false)) : F_tree_of [a, b, c] = .exc "NoPolynomial" := by
  have w := f_want_poly_no hb
  refine (runF_eq (n := 5) (u := D_tree_of)).trans ?_
  show (D_tree_of [.val a, .val b, .val c, .un, .un]).res = _
  unfold D_tree_of
  refine skp (by simp only [tNt_eq, tB1_eq, eD_eq, aCons_eq, aNil_eq, eV0, bind1, f_is_prime, h, asB_eq, Bool.not_true]) ?_
  exact drpX (by simp only [eD_eq, aCons_eq, aNil_eq, eVs, eV0, bind1, w])
theorem f_tree_noD {a b c : PV} (h : isP a = true) (hb : F_is_poly [b] = .ok (.bl true)) (hc : NoLen 1 12 c) : F_tree_of [a, b, c] = .exc "NoDepth" := by
  have w := f_want_poly_ok hb
  refine (runF_eq (n := 5) (u := D_tree_of)).trans ?_
  show (D_tree_of [.val a, .val b, .val c, .un, .un]).res = _
  unfold D_tree_of
  refine skp (by simp only [tNt_eq, tB1_eq, eD_eq, aCons_eq, aNil_eq, eV0, bind1, f_is_prime, h, asB_eq, Bool.not_true]) ?_
  refine stpN (ρ' := [.val a, .val b, .val c, .un, .un]) (by simp only [sDrop_eq, eD_eq, aCons_eq, aNil_eq, eVs, eV0, bind1, w, st_ok]) ?_
  refine ifT ?_ rzX
  rcases hc with hc | ⟨n, rfl, hc⟩
  · simp only [tOr_eq, tNt_eq, tB1_eq, eD_eq, aCons_eq, aNil_eq, eVs, eV0, bind1, f_is_whole, hc, asB_eq, Bool.not_false, if_true]
  · rcases hc with hc | hc
    · simp only [tOr_eq, tNt_eq, tB1_eq, e2_eq, eD_eq, aCons_eq, aNil_eq, eVs, eV0, eVos, eVo0, eC_eq, bind1, f_is_whole, isW_int, asB_eq, Bool.not_true, if_neg Bool.false_ne_true, ltP_ii, decide_eq_true hc, if_true]
    · have h1 : decide (n < 1) = false := decide_eq_false (by omega)
      simp only [tOr_eq, tNt_eq, tB1_eq, e2_eq, eD_eq, aCons_eq, aNil_eq, eVs, eV0, eVos, eVo0, eC_eq, bind1, f_is_whole, isW_int, asB_eq, Bool.not_true, if_neg Bool.false_ne_true, ltP_ii, h1, gtP_ii, decide_eq_true hc]
theorem f_root_noP {a b c d : PV} (h : isP a = false) : F_root_of [a, b, c, d] = .exc "NoPrime" := by
  refine (runF_eq (n := 11) (u := D_root_of)).trans ?_
  show (D_root_of [.val a, .val b, .val c, .val d, .un, .un, .un, .un, .un, .un, .un]).res = _
  unfold D_root_of
  exact ifT (by simp only [tNt_eq, tB1_eq, eD_eq, aCons_eq, aNil_eq, eV0, bind1, f_is_prime, h, asB_eq, Bool.not_false]) rzX
theorem f_root_noQ {a b c d : PV} (h : isP a = true) (hb : F_is_poly [b] = .ok (.bl false)) : F_root_of [a, b, c, d] = .exc "NoPolynomial" := by
  have w := f_want_poly_no hb
  refine (runF_eq (n := 11) (u := D_root_of)).trans ?_
  show (D_root_of [.val a, .val b, .val c, .val d, .un, .un, .un, .un, .un, .un, .un]).res = _
  unfold D_root_of
  refine skp (by simp only [tNt_eq, tB1_eq, eD_eq, aCons_eq, aNil_eq, eV0, bind1, f_is_prime, h, asB_eq, Bool.not_true]) ?_
  exact drpX (by simp only [eD_eq, aCons_eq, aNil_eq, eVs, eV0, bind1, w])
theorem f_root_noR {a b c d : PV} (h : isP a = true) (hb : F_is_poly [b] = .ok (.bl true)) (hr : F_rise_of [a, b, c] = .exc "NoRoot") : F_root_of [a, b, c, d] = .exc "NoRoot" := by
  have w := f_want_poly_ok hb
  refine (runF_eq (n := 11) (u := D_root_of)).trans ?_
  show (D_root_of [.val a, .val b, .val c, .val d, .un, .un, .un, .un, .un, .un, .un]).res = _
  unfold D_root_of
  refine skp (by simp only [tNt_eq, tB1_eq, eD_eq, aCons_eq, aNil_eq, eV0, bind1, f_is_prime, h, asB_eq, Bool.not_true]) ?_
  refine stpN (ρ' := [.val a, .val b, .val c, .val d, .un, .un, .un, .un, .un, .un, .un]) (by simp only [sDrop_eq, eD_eq, aCons_eq, aNil_eq, eVs, eV0, bind1, w, st_ok]) ?_
  exact stpX (by simp only [eD_eq, aCons_eq, aNil_eq, eVs, eV0, bind1, hr])
theorem f_root_noE {a b c d k : PV} {m : Int} (h : isP a = true) (hb : F_is_poly [b] = .ok (.bl true)) (hr : F_rise_of [a, b, c] = .ok k) (hl : lenP [c] = .ok (.int m)) (hd : NoLen m 400 d) : F_root_of [a, b, c, d] = .exc "NoPlace" := by
  have w := f_want_poly_ok hb
  refine (runF_eq (n := 11) (u := D_root_of)).trans ?_
  show (D_root_of [.val a, .val b, .val c, .val d, .un, .un, .un, .un, .un, .un, .un]).res = _
  unfold D_root_of
  refine skp (by simp only [tNt_eq, tB1_eq, eD_eq, aCons_eq, aNil_eq, eV0, bind1, f_is_prime, h, asB_eq, Bool.not_true]) ?_
  refine stpN (ρ' := [.val a, .val b, .val c, .val d, .un, .un, .un, .un, .un, .un, .un]) (by simp only [sDrop_eq, eD_eq, aCons_eq, aNil_eq, eVs, eV0, bind1, w, st_ok]) ?_
  refine stp k (by simp only [eD_eq, aCons_eq, aNil_eq, eVs, eV0, bind1, hr]) ?_
  simp only [List.set_cons_succ, List.set_cons_zero]
  refine ifT ?_ rzX
  rcases hd with hc | ⟨n, rfl, hc⟩
  · simp only [tOr_eq, tNt_eq, tB1_eq, eD_eq, aCons_eq, aNil_eq, eVs, eV0, bind1, f_is_whole, hc, asB_eq, Bool.not_false, if_true]
  · by_cases h1 : n < m
    · simp only [tOr_eq, tNt_eq, tB1_eq, e2_eq, eD_eq, aCons_eq, aNil_eq, eVs, eV0, eVos, eVo0, eC_eq, bind1, f_is_whole, isW_int, asB_eq, Bool.not_true, if_neg Bool.false_ne_true, hl, ltP_ii, decide_eq_true h1, if_true]
    · have hc : 400 < n := by omega
      simp only [tOr_eq, tNt_eq, tB1_eq, e2_eq, eD_eq, aCons_eq, aNil_eq, eVs, eV0, eVos, eVo0, eC_eq, bind1, f_is_whole, isW_int, asB_eq, Bool.not_true, if_neg Bool.false_ne_true, hl, ltP_ii, decide_eq_false h1, gtP_ii, decide_eq_true hc]
theorem f_rise_noS {a b c : PV} (h : F_is_stem [a, c] = .ok (.bl false)) : F_rise_of [a, b, c] = .exc "NoRoot" := by
  refine (runF_eq (n := 7) (u := D_rise_of)).trans ?_
  show (D_rise_of [.val a, .val b, .val c, .un, .un, .un, .un]).res = _
  unfold D_rise_of
  exact ifT (by simp only [tNt_eq, tB1_eq, eD_eq, aCons_eq, aNil_eq, eVs, eV0, bind1, h, asB_eq, Bool.not_false]) rzX
theorem no_stem {a x : PV} (h : isT x = false) : F_is_stem [a, x] = .ok (.bl false) := by
  have it : isiP "tuple" x = .ok (.bl false) := by rw [isi_tuple, h]
  refine (runF_eq (n := 3) (u := D_is_stem)).trans ?_
  show (D_is_stem [.val a, .val x, .un]).res = _
  unfold D_is_stem
  refine ifT (by simp only [tOr_eq, tNt_eq, tB1_eq, e1_eq, eVos, eVo0, bind1, it, asB_eq, Bool.not_false, if_true]) ?_
  simp only [bSeq_eq, sRet_eq, eC_eq, st_ok, then_ret, res_ret]
theorem no_stem_len {a : PV} {l : List PV} (h : l.length < 1 ∨ 12 < l.length) : F_is_stem [a, .tup l] = .ok (.bl false) := by
  have it : isiP "tuple" (.tup l) = .ok (.bl true) := by rw [isi_tuple]; rfl
  have ln : lenP [.tup l] = .ok (.int l.length) := by simp
  refine (runF_eq (n := 3) (u := D_is_stem)).trans ?_
  show (D_is_stem [.val a, .val (.tup l), .un]).res = _
  unfold D_is_stem
  refine ifT ?_ (by simp only [bSeq_eq, sRet_eq, eC_eq, st_ok, then_ret, res_ret])
  by_cases h1 : (l.length : Int) < 1
  · simp only [tOr_eq, tNt_eq, tB1_eq, e1_eq, e2_eq, eD_eq, aCons_eq, aNil_eq, eVos, eVo0, eC_eq, bind1, it, ln, asB_eq, Bool.not_true, if_neg Bool.false_ne_true, ltP_ii, decide_eq_true h1, if_true]
  · have h2 : 12 < (l.length : Int) := by omega
    simp only [tOr_eq, tNt_eq, tB1_eq, e1_eq, e2_eq, eD_eq, aCons_eq, aNil_eq, eVos, eVo0, eC_eq, bind1, it, ln, asB_eq, Bool.not_true, if_neg Bool.false_ne_true, ltP_ii, decide_eq_false h1, gtP_ii, decide_eq_true h2]
def gd (p : Int) : PV → Bool
  | .int d => decide (0 ≤ d) && decide (d < p)
  | _ => false
theorem no_stem_dig {p : Int} {l : List PV} (hl : l.length ≤ 12) (hq : ∀ q ∈ l, isW q = false ∨ ∃ d : Int, q = .int d) (hb : l.all (gd p) = false) : F_is_stem [.int p, .tup l] = .ok (.bl false) := by
  by_cases l1 : l.length < 1
  · exact no_stem_len (.inl l1)
  have it : isiP "tuple" (.tup l) = .ok (.bl true) := by rw [isi_tuple]; rfl
  have ln : lenP [.tup l] = .ok (.int l.length) := by simp
  have go : lcGo (gN 2) cYes (eAn (eD F_is_whole (aCons (eV 2) aNil)) (eChain leP ltP (eC (.int 0)) (eVo 2) (eVo 0))) [.val (.int p), .val (.tup l), .un] l = .ok (l.map fun q => PV.bl (gd p q)) := by
    refine lcGo_map _ l fun q hq' => ⟨[.val (.int p), .val (.tup l), .val q], rfl, ?_⟩
    rcases hq q hq' with h | ⟨d, rfl⟩
    · have : gd p q = false := by
        cases q with
        | int d => rw [isW_int] at h; cases h
        | _ => rfl
      simp only [eAn_eq, eD_eq, aCons_eq, aNil_eq, eVs, eV0, bind1, f_is_whole, h, asB_eq, if_neg Bool.false_ne_true, this]
    · show _ = R.ok (PV.bl (decide (0 ≤ d) && decide (d < p)))
      cases c : decide (0 ≤ d) <;> simp only [eAn_eq, eChain_eq, eD_eq, aCons_eq, aNil_eq, eVs, eV0, eVos, eVo0, eC_eq, bind1, f_is_whole, isW_int, asB_eq, if_true, leP_ii, ltP_ii, c, if_neg Bool.false_ne_true, Bool.true_and, Bool.false_and]
  have L := eLc_ok (vs := [2]) (it := iS (eV 1)) (ρ := [.val (.int p), .val (.tup l), .un]) (items := l) rfl (by simp only [iS_eq, eVs, eV0, bind1, asS_t]) (by omega) go
  have al : allP [.lst (l.map fun q => PV.bl (gd p q))] = .ok (.bl false) := by
    rw [show (l.map fun q => PV.bl (gd p q)) = (l.map (gd p)).map PV.bl by rw [List.map_map]; rfl, allP_bl, List.all_map]
    exact congrArg (fun b => R.ok (PV.bl b)) hb
  have h1 : decide ((l.length : Int) < 1) = false := decide_eq_false (by omega)
  have h2 : decide (12 < (l.length : Int)) = false := decide_eq_false (by omega)
  refine (runF_eq (n := 3) (u := D_is_stem)).trans ?_
  show (D_is_stem [.val (.int p), .val (.tup l), .un]).res = _
  unfold D_is_stem
  refine skp (by simp only [tOr_eq, tNt_eq, tB1_eq, e1_eq, e2_eq, eD_eq, aCons_eq, aNil_eq, eVos, eVo0, eC_eq, bind1, it, ln, ltP_ii, gtP_ii, h1, h2, asB_eq, Bool.not_true, if_neg Bool.false_ne_true]) ?_
  simp only [bSeq_eq, sRet_eq, eD_eq, aCons_eq, aNil_eq, L, bind1, al, st_ok, then_ret, res_ret]
theorem not_on {p : Int} {qs : List Int} {e : Int} (h : ¬ On p qs e) : wrd p qs e = wNone ∨ wrd p qs e = wOne := by
  unfold wrd
  by_cases z1 : ev qs e % p = 0
  · by_cases z2 : ev (slo qs) e % p = 0
    · exact absurd ⟨z1, z2⟩ h
    · rw [if_neg (fun q => q z1), if_pos z2]; exact .inr rfl
  · rw [if_pos z1]; exact .inl rfl
theorem rise_fail {p : Int} (hp : 2 ≤ p ∧ p ≤ 97) (x y : PV) : ∀ (ds : List Int) (t : Nat × List Int) (M : Nat) (e : Int) (b : List Int) (s5 s6 : Slot), At M t → M + 600 * ds.length ≤ 300000 → (∀ a z b, ds = a ++ z :: b → (0 ≤ z ∧ z < p) ∧ On p (seeL p t a).2 z) → (0 ≤ e ∧ e < p) → ¬ On p (seeL p t ds).2 e →
    ∃ ρ', forL (gN 5) (bSeq (sIf (tB1 (e2 neP (eD F_word_of (aCons (eV 0) (aCons (eV 4) (aCons (eV 5) aNil)))) (eC (.str "on")))) (bSeq (sRaise "NoRoot") bNil) bNil) (bSeq (sTo (gT (gsCons (gN 6) (gsCons (gN 4) gsNil))) (eD F_one_on (aCons (eV 0) (aCons (eV 4) (aCons (eV 5) aNil))))) (bSeq (sAug 3 (intP (fun _ _ => true) fun a b => .int (a + b)) (eVo 6)) bNil))) ((ds ++ e :: b).map PV.int) [.val (.int p), .val x, .val y, .val (.int t.1), .val (.lst (t.2.map PV.int)), s5, s6] = .exc "NoRoot" ρ'
  | [], t, M, e, b, s5, s6, hA, hM, _, he, hn => by
    have W := f_word_of (p := p) (d := e) (by omega) (by omega) (hA.nz.poly hA.l2 hA.l9) hA.bd (by omega)
    have hn' : ¬ On p t.2 e := hn
    have q1 : neP (.str (wrd p t.2 e)) (.str "on") = .ok (.bl true) := by
      rcases not_on hn' with w | w <;> rw [w]
      · exact (ne_ss ok_none ok_on).trans (by rfl)
      · exact (ne_ss ok_one ok_on).trans (by rfl)
    refine ⟨[.val (.int p), .val x, .val y, .val (.int t.1), .val (.lst (t.2.map PV.int)), .val (.int e), s6], ?_⟩
    rw [List.nil_append, List.map_cons, forL_cons, gN_eq, onR_some]
    simp only [List.set_cons_succ, List.set_cons_zero, bSeq_eq, sIf_eq, tB1_eq, e2_eq, eD_eq, aCons_eq, aNil_eq, eVs, eV0, eC_eq, bind1, W, q1, asB_eq, stB_ok, if_true, sRaise_eq, then_exc, fo_exc]
  | d :: ds, t, M, e, b, s5, s6, hA, hM, h, he, hn => by
    rw [List.length_cons] at hM
    obtain ⟨hd, ho⟩ := h [] d ds rfl
    have ho' : On p t.2 d := ho
    have W := f_word_of (p := p) (d := d) (by omega) (by omega) (hA.nz.poly hA.l2 hA.l9) hA.bd (by omega)
    have wo : wrd p t.2 d = wOn := by unfold wrd; rw [if_neg (fun q => q ho'.1), if_neg (fun q => q ho'.2)]
    rw [wo] at W
    have q1 : neP (.str wOn) (.str "on") = .ok (.bl false) := (ne_ss ok_on ok_on).trans rfl
    have O := f_one_on (p := p) (d := d) (by omega) (by omega) (by omega) hA.nz hA.l9 hA.bd (by omega)
    obtain ⟨ρ', ih⟩ := rise_fail hp x y ds (nxt p t d) (M + 600) e b (.val (.int d)) (.val (.int (lfN p (on1 p t.2 d)))) (hA.next (by omega) (by omega)) (by omega) (fun a z b q => h (d :: a) z b (by rw [q]; rfl)) he hn
    refine ⟨ρ', ?_⟩
    have ih' : forL (gN 5) _ ((ds ++ e :: b).map PV.int) [.val (.int p), .val x, .val y, .val (.int ((t.1 + lfN p (on1 p t.2 d) : Nat) : Int)), .val (.lst ((lfQ p (on1 p t.2 d)).map PV.int)), .val (.int d), .val (.int (lfN p (on1 p t.2 d)))] = .exc "NoRoot" ρ' := ih
    rw [← ih', List.cons_append, List.map_cons, forL_cons, gN_eq, onR_some]
    have g : gT (gsCons (gN 6) (gsCons (gN 4) gsNil)) (.tup [.int (lfN p (on1 p t.2 d)), .lst ((lfQ p (on1 p t.2 d)).map PV.int)]) [.val (.int p), .val x, .val y, .val (.int t.1), .val (.lst (t.2.map PV.int)), .val (.int d), s6] = some [.val (.int p), .val x, .val y, .val (.int t.1), .val (.lst ((lfQ p (on1 p t.2 d)).map PV.int)), .val (.int d), .val (.int (lfN p (on1 p t.2 d)))] := rfl
    simp only [List.set_cons_succ, List.set_cons_zero]
    refine foN ?_
    refine sqK (by simp only [tB1_eq, e2_eq, eD_eq, aCons_eq, aNil_eq, eVs, eV0, eC_eq, bind1, W, q1, asB_eq]) ?_
    simp only [bSeq_eq, sTo_eq, eD_eq, aCons_eq, aNil_eq, eVs, eV0, bind1, O, st_ok, g, onR_some, then_next]
    rw [sAug_at (x := .int t.1) (y := .int (lfN p (on1 p t.2 d))) (z := .int (t.1 + lfN p (on1 p t.2 d))) rfl (by simp only [eVos, eVo0]) iadd_ii, then_next]
    simp only [List.set_cons_succ, List.set_cons_zero, bNil_eq, Int.natCast_add]
section
variable {p : Int} {cs s : List Int} {e : Int}
/-- the last figure of a way is not one -/
theorem f_rise_last (hp : 2 ≤ p ∧ p ≤ 97) (h : NzL cs) (h2 : 2 ≤ cs.length) (h9 : cs.length ≤ 9) (hb : ∀ c ∈ cs, c.natAbs < 2 ^ 300) (hs : Pth p cs s) (hl : s.length + 1 ≤ 12) (he : 0 ≤ e ∧ e < p) (hw : wrd p (see p cs s).2 e ≠ wOne) :
    F_rise_of [.int p, .lst (cs.map PV.int), .tup ((s ++ [e]).map PV.int)] = .exc "NoRoot" := by
  have hA : At 300 (lfN p cs, lfQ p cs) := ⟨lfQ_nz (by omega) h, by show 2 ≤ (lfQ p cs).length; rw [lfQ_len]; exact h2, by show (lfQ p cs).length ≤ 9; rw [lfQ_len]; exact h9, lfQ_bd hb⟩
  have is := f_is_stem (p := p) (ds := s ++ [e]) (by simp) (by simp; omega) (fun x hx => by
    rcases List.mem_append.mp hx with hx | hx
    · exact hs.dig x hx
    · rw [List.mem_singleton.mp hx]; exact he)
  have S := f_seen_from (p := p) (ds := []) (by omega) (by omega) h h9 hb (fun _ z => nomatch z) (by simp)
  have S' : F_seen_from [.int p, .lst (cs.map PV.int), .tup []] = .ok (.tup [.int (lfN p cs), .lst ((lfQ p cs).map PV.int)]) := S
  have W : F_word_of [.int p, .lst ((seeL p (lfN p cs, lfQ p cs) s).2.map PV.int), .int e] = .ok (.str (wrd p (see p cs s).2 e)) := by
    have Se := see_ok (p := p) (by omega) h s
    have bd := seeL_bd (p := p) (by omega) s (lfN p cs, lfQ p cs) 300 (fun x hx => by have := hs.dig x hx; omega) (by rw [lfQ_len]; exact h9) (lfQ_bd hb)
    exact f_word_of (p := p) (d := e) (by omega) (by omega) (Se.nz.poly (by rw [Se.len]; exact h2) (by rw [Se.len]; exact h9)) bd (by omega)
  have sw : PyData.strOk (wrd p (see p cs s).2 e) = true := by
    unfold wrd
    split
    · exact ok_none
    · split
      · exact ok_one
      · exact ok_on
  have q1 : neP (.str (wrd p (see p cs s).2 e)) (.str "one") = .ok (.bl true) := by
    have : (wrd p (see p cs s).2 e == wOne) = false := by rw [beq_eq_false_iff_ne]; exact hw
    exact (ne_ss sw ok_one).trans (congrArg (fun b => R.ok (PV.bl (!b))) this)
  obtain ⟨C, hC⟩ : ∃ C, C = PV.lst (cs.map PV.int) := ⟨_, rfl⟩
  obtain ⟨D, hD⟩ : ∃ D, D = PV.tup ((s ++ [e]).map PV.int) := ⟨_, rfl⟩
  have ci : slP D none (some (-1)) = .ok (.tup (s.map PV.int)) := by rw [hD]; exact slP_init s e
  have la : ixP D (.int (-1)) = .ok (.int e) := by rw [hD, List.map_append]; exact ixP_lastT _ _
  obtain ⟨s5, s6, i⟩ := rise_loop hp C D s (lfN p cs, lfQ p cs) 300 .un .un hA (by omega) (fun a x b q => hs a x b q)
  rw [← hC] at S'
  rw [← hD] at is
  rw [← hC, ← hD]
  refine (runF_eq (n := 7) (u := D_rise_of)).trans ?_
  show (D_rise_of [.val (.int p), .val C, .val D, .un, .un, .un, .un]).res = _
  unfold D_rise_of
  refine skp (by simp only [tNt_eq, tB1_eq, eD_eq, aCons_eq, aNil_eq, eVs, eV0, bind1, is, asB_eq, Bool.not_true]) ?_
  refine stpN (ρ' := [.val (.int p), .val C, .val D, .val (.int (lfN p cs)), .val (.lst ((lfQ p cs).map PV.int)), .un, .un]) (by
    simp only [sTo_eq, eD_eq, aCons_eq, aNil_eq, eVs, eV0, bind1, tupP0, S', st_ok]; rfl) ?_
  refine stpFor (s.map PV.int) _ (by simp only [iS_eq, eSl_eq, oNone_eq, oSome_eq, e1_eq, eVos, eVo0, eC_eq, bind1, negP_eq, asI_eq, ci, asS_t]) i ?_
  exact ifT (by simp only [tB1_eq, e2_eq, e1_eq, eD_eq, aCons_eq, aNil_eq, eVs, eV0, eVos, eVo0, eC_eq, bind1, negP_eq, la, W, q1, asB_eq]) rzX
/-- a way that ends before its last figure -/
theorem f_rise_way (hp : 2 ≤ p ∧ p ≤ 97) (h : NzL cs) (h2 : 2 ≤ cs.length) (h9 : cs.length ≤ 9) (hb : ∀ c ∈ cs, c.natAbs < 2 ^ 300) (hs : Pth p cs s) (hl : s.length + 2 ≤ 12) (he : 0 ≤ e ∧ e < p) (hw : ¬ On p (see p cs s).2 e) {y : Int} (hy : 0 ≤ y ∧ y < p) :
    F_rise_of [.int p, .lst (cs.map PV.int), .tup ((s ++ [e] ++ [y]).map PV.int)] = .exc "NoRoot" := by
  have hA : At 300 (lfN p cs, lfQ p cs) := ⟨lfQ_nz (by omega) h, by show 2 ≤ (lfQ p cs).length; rw [lfQ_len]; exact h2, by show (lfQ p cs).length ≤ 9; rw [lfQ_len]; exact h9, lfQ_bd hb⟩
  have is := f_is_stem (p := p) (ds := s ++ [e] ++ [y]) (by simp) (by simp; omega) (fun x hx => by
    rcases List.mem_append.mp hx with hx | hx
    · rcases List.mem_append.mp hx with hx | hx
      · exact hs.dig x hx
      · rw [List.mem_singleton.mp hx]; exact he
    · rw [List.mem_singleton.mp hx]; exact hy)
  have S := f_seen_from (p := p) (ds := []) (by omega) (by omega) h h9 hb (fun _ z => nomatch z) (by simp)
  have S' : F_seen_from [.int p, .lst (cs.map PV.int), .tup []] = .ok (.tup [.int (lfN p cs), .lst ((lfQ p cs).map PV.int)]) := S
  obtain ⟨C, hC⟩ : ∃ C, C = PV.lst (cs.map PV.int) := ⟨_, rfl⟩
  obtain ⟨D, hD⟩ : ∃ D, D = PV.tup ((s ++ [e] ++ [y]).map PV.int) := ⟨_, rfl⟩
  have ci : slP D none (some (-1)) = .ok (.tup ((s ++ e :: []).map PV.int)) := by rw [hD]; exact slP_init (s ++ [e]) y
  obtain ⟨ρ', i⟩ := rise_fail hp C D s (lfN p cs, lfQ p cs) 300 e [] .un .un hA (by omega) (fun a x b q => hs a x b q) he hw
  rw [← hC] at S'
  rw [← hD] at is
  rw [← hC, ← hD]
  refine (runF_eq (n := 7) (u := D_rise_of)).trans ?_
  show (D_rise_of [.val (.int p), .val C, .val D, .un, .un, .un, .un]).res = _
  unfold D_rise_of
  refine skp (by simp only [tNt_eq, tB1_eq, eD_eq, aCons_eq, aNil_eq, eVs, eV0, bind1, is, asB_eq, Bool.not_true]) ?_
  refine stpN (ρ' := [.val (.int p), .val C, .val D, .val (.int (lfN p cs)), .val (.lst ((lfQ p cs).map PV.int)), .un, .un]) (by
    simp only [sTo_eq, eD_eq, aCons_eq, aNil_eq, eVs, eV0, bind1, tupP0, S', st_ok]; rfl) ?_
  exact forX ((s ++ e :: []).map PV.int) (by simp only [iS_eq, eSl_eq, oNone_eq, oSome_eq, e1_eq, eVos, eVo0, eC_eq, bind1, negP_eq, asI_eq, ci, asS_t]) i
end
/-- what a row's last figure is -/
theorem row_wrd {p : Int} {cs : List Int} {n : Nat} {r : Row} {s : List Int} {d : Int} (Ro : RowAt p cs n r s d) : (r.word = wNone ∧ ¬ On p (see p cs s).2 d ∧ wrd p (see p cs s).2 d = wNone) ∨ (r.word = wOne ∧ ¬ On p (see p cs s).2 d ∧ wrd p (see p cs s).2 d = wOne) ∨ (r.word = wOpen ∧ wrd p (see p cs s).2 d = wOn) := by
  rcases Ro.is with ⟨w, _, hu⟩ | ⟨w, _, hu, hs⟩ | ⟨w, _, ho, _⟩
  · exact .inl ⟨w, fun z => hu z.1, by unfold wrd; rw [if_pos hu]⟩
  · exact .inr (.inl ⟨w, fun z => hs z.2, by unfold wrd; rw [if_neg (fun q => q hu), if_pos hs]⟩)
  · exact .inr (.inr ⟨w, by unfold wrd; rw [if_neg (fun q => q ho.1), if_neg (fun q => q ho.2)]⟩)
theorem rowsD_in {sub : Int → List Row} {r : Row} : ∀ {k : Nat} {a d : Int}, a ≤ d → d < a + k → r ∈ sub d → r ∈ rowsD sub a k
  | 0, a, d, h1, h2, _ => by omega
  | k + 1, a, d, h1, h2, h => by
    rw [rowsD]
    by_cases e : d = a
    · subst e; exact List.mem_append_left _ h
    · exact List.mem_append_right _ (rowsD_in (by omega) (by omega) h)
/-- a tree of which no row is closed goes on at its first figure -/
theorem first_on {p : Int} (hp : 2 ≤ p) {cs : List Int} {n : Nat} (n1 : 1 ≤ n) (h : ∀ r ∈ tree p cs n, r.word = wOpen) : wrd p (see p cs []).2 0 ≠ wOne := by
  obtain ⟨m, rfl⟩ : ∃ m, n = m + 1 := ⟨n - 1, by omega⟩
  intro w
  have z : (see p cs []) = (lfN p cs, lfQ p cs) := rfl
  rw [z] at w
  have rw1 : rowsAt p m (gro p m) [] (lfN p cs, lfQ p cs) 0 = [⟨[] ++ [0], wOne, ((lfN p cs : Nat) : Int) - (([] : List Int).length : Nat)⟩] := by
    unfold wrd at w
    unfold rowsAt
    by_cases z1 : ev (lfQ p cs) 0 % p = 0
    · by_cases z2 : ev (slo (lfQ p cs)) 0 % p = 0
      · rw [if_neg (fun q => q z1), if_neg (fun q => q z2)] at w
        exact absurd w (by decide +kernel)
      · rw [if_neg (fun q => q z1), if_pos z2]
    · rw [if_pos z1] at w
      exact absurd w (by decide +kernel)
  have : (⟨[] ++ [0], wOne, ((lfN p cs : Nat) : Int) - (([] : List Int).length : Nat)⟩ : Row) ∈ tree p cs (m + 1) := by
    show _ ∈ rowsD (rowsAt p m (gro p m) [] (lfN p cs, lfQ p cs)) 0 p.toNat
    exact rowsD_in (d := 0) (by omega) (by omega) (by rw [rw1]; exact List.mem_singleton.mpr rfl)
  have := h _ this
  exact absurd (show wOne = wOpen from this) (by decide +kernel)
end PM
set_option Elab.async false
set_option linter.all false
set_option maxRecDepth 100000
set_option autoImplicit false
namespace K68
open PySem PySem.Spec L2 PL PM
open PyProof.Rows hiding St
def csL : List Str := ["NoDepth", "NoFigures", "NoPlace", "NoPolynomial", "NoPrime", "NoRoot"]
noncomputable def D__law_cell_at : Rho → Out := (bSeq (sIf (tB1 (e2 ltP (eVo 1) (eD lenP (aCons (eVo 0) aNil)))) (bSeq (sRet (e2 ixP (eVo 0) (eVo 1))) bNil) bNil) (bSeq (sRet (eC (.int 0))) bNil))
noncomputable def F__law_cell_at : List PV → R PV := runF 2 D__law_cell_at
noncomputable def D__law_prime : Rho → Out := (bSeq (sIf (tB1 (e2 eqP (e2 modP (e2 fdivP (eVo 0) (eC (.int 5))) (eC (.int 16))) (eC (.int 7)))) (bSeq (sRet (e2 ixP (eD lstP (aCons (eC (.int 13)) (aCons (eC (.int 17)) (aCons (eC (.int 19)) (aCons (eC (.int 23)) (aCons (eC (.int 29)) (aCons (eC (.int 31)) (aCons (eC (.int 37)) (aCons (eC (.int 41)) (aCons (eC (.int 43)) (aCons (eC (.int 47)) (aCons (eC (.int 53)) (aCons (eC (.int 59)) (aCons (eC (.int 61)) (aCons (eC (.int 67)) (aCons (eC (.int 71)) (aCons (eC (.int 73)) (aCons (eC (.int 79)) (aCons (eC (.int 83)) (aCons (eC (.int 89)) (aCons (eC (.int 97)) aNil))))))))))))))))))))) (e2 modP (e2 fdivP (eVo 0) (eC (.int 80))) (eC (.int 20))))) bNil) bNil) (bSeq (sRet (e2 ixP (eD lstP (aCons (eC (.int 2)) (aCons (eC (.int 3)) (aCons (eC (.int 5)) (aCons (eC (.int 7)) (aCons (eC (.int 11)) aNil)))))) (e2 modP (eVo 0) (eC (.int 5))))) bNil))
noncomputable def F__law_prime : List PV → R PV := runF 1 D__law_prime
noncomputable def D__law_product : Rho → Out := (bSeq (sSetO 2 (eLc [3] (iR rng1 (aCons (e2 subP (e2 addP (eD lenP (aCons (eVo 0) aNil)) (eD lenP (aCons (eVo 1) aNil))) (eC (.int 1))) aNil)) (gN 3) cYes (eC (.int 0)))) (bSeq (sFor (iR rng1 (aCons (eD lenP (aCons (eVo 0) aNil)) aNil)) (gN 3) (bSeq (sFor (iR rng1 (aCons (eD lenP (aCons (eVo 1) aNil)) aNil)) (gN 4) (bSeq (sSetI 2 (e2 addP (e2 ixP (eVo 2) (e2 addP (eVo 3) (eVo 4))) (e2 mulP (e2 ixP (eVo 0) (eVo 3)) (e2 ixP (eVo 1) (eVo 4)))) (e2 addP (eVo 3) (eVo 4))) bNil)) bNil)) (bSeq (sRetO 2) bNil)))
noncomputable def F__law_product : List PV → R PV := runF 5 D__law_product
noncomputable def D__law_factors : Rho → Out := (bSeq (sSetO 2 (eD lstP aNil)) (bSeq (sFor (iS (eV 0)) (gN 3) (bSeq (sSet 4 (e2 subP (e2 modP (eVo 3) (eC (.int 41))) (eC (.int 20)))) (bSeq (sSet 5 (e2 ixP (eD lstP (aCons (eC (.int 1)) (aCons (eC (.int 1)) (aCons (eC (.int 1)) (aCons (eC (.int 2)) (aCons (eC (.int 3)) (aCons (eV 1) aNil))))))) (e2 modP (e2 fdivP (eVo 3) (eC (.int 41))) (eC (.int 6))))) (bSeq (sIf (tAn (tB1 (e2 eqP (e2 modP (e2 fdivP (eVo 3) (eC (.int 246))) (eC (.int 3))) (eC (.int 1)))) (tB1 (e2 neP (eVo 2) (eD lstP aNil)))) (bSeq (sSet 6 (eV 1)) (bSeq (sFor (iR rng1 (aCons (e2 modP (e2 fdivP (eVo 3) (eC (.int 738))) (e2 ixP (eD lstP (aCons (eC (.int 3)) (aCons (eC (.int 11)) aNil))) (eD intP1 (aCons (e2 ltP (eVo 1) (eC (.int 4))) aNil)))) aNil)) (gN 7) (bSeq (sSet 6 (e2 mulP (eVo 6) (eVo 1))) bNil)) (bSeq (sSet 4 (e2 addP (e2 ixP (e2 ixP (eVo 2) (e1 negP (eC (.int 1)))) (eC (.int 0))) (e2 mulP (eVo 6) (e2 addP (eC (.int 1)) (e2 modP (e2 fdivP (eVo 3) (eC (.int 2214))) (eC (.int 3))))))) (bSeq (sSet 5 (e2 ixP (e2 ixP (eVo 2) (e1 negP (eC (.int 1)))) (eC (.int 1)))) bNil)))) bNil) (bSeq (sMut 2 appP (eD tupP (aCons (eV 4) (aCons (eV 5) aNil)))) bNil))))) (bSeq (sRetO 2) bNil)))
noncomputable def F__law_factors : List PV → R PV := runF 8 D__law_factors
noncomputable def D__law_poly : Rho → Out := (bSeq (sIf (tB1 (e2 eqP (e2 modP (e2 ixP (eVo 0) (eC (.int 0))) (eC (.int 3))) (eC (.int 0)))) (bSeq (sSetO 2 (eD lstP aNil)) (bSeq (sFor (iS (eSl slP (eVo 0) (oSome (eC (.int 1))) oNone)) (gN 3) (bSeq (sSet 4 (e2 ixP (eD lstP (aCons (eC (.int 1)) (aCons (eC (.int 1)) (aCons (eV 1) (aCons (e2 mulP (eVo 1) (eVo 1)) (aCons (e2 addP (e2 powP (eC (.int 10)) (eC (.int 9))) (e2 modP (eVo 3) (e2 powP (eC (.int 10)) (eC (.int 58))))) aNil)))))) (e2 modP (eVo 3) (eC (.int 5))))) (bSeq (sMut 2 appP (e2 mulP (e2 subP (e2 modP (e2 fdivP (eVo 3) (eC (.int 5))) (eC (.int 19))) (eC (.int 9))) (eVo 4))) bNil))) (bSeq (sRet (e2 addP (eSl slP (eVo 2) oNone (oSome (e1 negP (eC (.int 1))))) (eD lstP (aCons (e2 addP (e2 ixP (eVo 2) (e1 negP (eC (.int 1)))) (eD intP1 (aCons (e2 eqP (e2 ixP (eVo 2) (e1 negP (eC (.int 1)))) (eC (.int 0))) aNil))) aNil)))) bNil))) bNil) (bSeq (sSetO 2 (eD lstP (aCons (e2 ixP (eD lstP (aCons (eC (.int 1)) (aCons (eC (.int 1)) (aCons (eC (.int 2)) (aCons (eV 1) aNil))))) (e2 modP (e2 fdivP (e2 ixP (eVo 0) (eC (.int 0))) (eC (.int 3))) (eC (.int 4)))) aNil))) (bSeq (sFor (iS (eD F__law_factors (aCons (eSl slP (eVo 0) (oSome (eC (.int 1))) oNone) (aCons (eV 1) aNil)))) (gT (gsCons (gN 5) (gsCons (gN 6) gsNil))) (bSeq (sSetO 2 (eD (lendF true F__law_product) (aCons (eVo 2) (aCons (eD lstP (aCons (e2 subP (eC (.int 0)) (eVo 5)) (aCons (eV 6) aNil))) aNil)))) bNil)) (bSeq (sIf (tB1 (e2 eqP (e2 modP (e2 fdivP (e2 ixP (eVo 0) (eC (.int 0))) (eC (.int 12))) (eC (.int 4))) (eC (.int 1)))) (bSeq (sSetI 2 (e2 addP (e2 ixP (eVo 2) (eC (.int 0))) (e2 mulP (e2 mulP (eVo 1) (eVo 1)) (e2 modP (e2 fdivP (e2 ixP (eVo 0) (eC (.int 0))) (eC (.int 48))) (eC (.int 5))))) (eC (.int 0))) bNil) bNil) (bSeq (sRetO 2) bNil)))))
noncomputable def F__law_poly : List PV → R PV := runF 7 D__law_poly
noncomputable def D__law_asked : Rho → Out := (bSeq (sSet 1 (eD F__law_cell_at (aCons (eV 0) (aCons (eC (.int 0)) aNil)))) (bSeq (sSet 2 (eD F__law_prime (aCons (eV 1) aNil))) (bSeq (sSet 3 (e2 addP (eC (.int 2)) (e2 modP (eD F__law_cell_at (aCons (eV 0) (aCons (eC (.int 1)) aNil))) (eC (.int 4))))) (bSeq (sIf (tB1 (e2 eqP (e2 modP (e2 fdivP (eD F__law_cell_at (aCons (eV 0) (aCons (eC (.int 1)) aNil))) (eC (.int 4))) (eC (.int 8))) (eC (.int 5)))) (bSeq (sSet 3 (e2 addP (eC (.int 6)) (e2 modP (e2 fdivP (eD F__law_cell_at (aCons (eV 0) (aCons (eC (.int 1)) aNil))) (eC (.int 32))) (eC (.int 3))))) bNil) bNil) (bSeq (sSet 4 (eD F__law_poly (aCons (eLc [6] (iR rng1 (aCons (e2 addP (eC (.int 1)) (eVo 3)) aNil)) (gN 6) cYes (e2 fdivP (eD F__law_cell_at (aCons (eV 0) (aCons (e2 addP (eC (.int 1)) (eVo 6)) aNil))) (e2 ixP (eD lstP (aCons (eC (.int 6)) (aCons (eC (.int 1)) aNil))) (eD intP1 (aCons (e2 gtP (eVo 6) (eC (.int 0))) aNil))))) (aCons (eV 2) aNil)))) (bSeq (sSet 5 (e2 addP (eC (.int 1)) (e2 modP (e2 fdivP (eVo 1) (eC (.int 1600))) (e2 ixP (eD lstP (aCons (eC (.int 5)) (aCons (eC (.int 2)) aNil))) (eD intP1 (aCons (e2 gtP (eVo 2) (eC (.int 11))) aNil)))))) (bSeq (sIf (tOr' (tB1 (e2 eqP (e2 modP (e2 fdivP (eVo 1) (eC (.int 5))) (eC (.int 16))) (eC (.int 9)))) (tAn (tB1 (e2 gtP (eVo 2) (eC (.int 11)))) (tB1 (e2 eqP (e2 modP (e2 fdivP (eVo 1) (eC (.int 3200))) (eC (.int 8))) (eC (.int 5)))))) (bSeq (sSet 5 (eC (.int 12))) bNil) bNil) (bSeq (sRet (eD tupP (aCons (eV 2) (aCons (eV 4) (aCons (eV 5) aNil))))) bNil))))))))
noncomputable def F__law_asked : List PV → R PV := runF 7 D__law_asked
noncomputable def D__law_no_prime : Rho → Out := (bSeq (sSet 1 (e2 modP (e2 fdivP (eVo 0) (eC (.int 9))) (e2 powP (eC (.int 10)) (eC (.int 30))))) (bSeq (sRet (e2 ixP (eD lstP (aCons (eC (.int 1)) (aCons (e2 addP (eC (.int 98)) (eVo 1)) (aCons (eC (.int 91)) (aCons (e2 subP (e1 negP (eC (.int 2))) (eVo 1)) (aCons (eC (.bl true)) (aCons (eC .non) (aCons (eC (.str "7")) (aCons (eD tupP (aCons (eC (.int 7)) aNil)) (aCons (eC (.int 0)) aNil)))))))))) (e2 modP (eVo 0) (eC (.int 9))))) bNil))
noncomputable def F__law_no_prime : List PV → R PV := runF 2 D__law_no_prime
noncomputable def D__law_no_poly : Rho → Out := (bSeq (sSet 1 (e2 modP (e2 fdivP (eVo 0) (eC (.int 9))) (e2 powP (eC (.int 10)) (eC (.int 30))))) (bSeq (sRet (e2 ixP (eD lstP (aCons (eD tupP (aCons (eV 1) (aCons (eC (.int 1)) aNil))) (aCons (eC .non) (aCons (eD lstP (aCons (e2 addP (eC (.int 1)) (eVo 1)) aNil)) (aCons (eD lstP (aCons (eV 1) (aCons (eC (.int 0)) aNil))) (aCons (e2 repL (eD lstP (aCons (eC (.int 1)) aNil)) (eC (.int 10))) (aCons (eD lstP (aCons (eV 1) (aCons (eC (.bl true)) aNil))) (aCons (eD lstP (aCons (eV 1) (aCons (eC .non) (aCons (eC (.int 1)) aNil)))) (aCons (eC (.str "11")) (aCons (eV 1) aNil)))))))))) (e2 modP (eVo 0) (eC (.int 9))))) bNil))
noncomputable def F__law_no_poly : List PV → R PV := runF 2 D__law_no_poly
noncomputable def D__law_no_depth : Rho → Out := (bSeq (sRet (e2 ixP (eD lstP (aCons (eC (.int 0)) (aCons (e2 addP (eC (.int 13)) (e2 modP (e2 fdivP (eVo 0) (eC (.int 7))) (e2 powP (eC (.int 10)) (eC (.int 20))))) (aCons (e2 subP (e1 negP (eC (.int 1))) (e2 modP (e2 fdivP (eVo 0) (eC (.int 7))) (e2 powP (eC (.int 10)) (eC (.int 20))))) (aCons (eC (.bl true)) (aCons (eC .non) (aCons (eC (.str "3")) (aCons (eD lstP (aCons (eC (.int 2)) aNil)) aNil)))))))) (e2 modP (eVo 0) (eC (.int 7))))) bNil)
noncomputable def F__law_no_depth : List PV → R PV := runF 1 D__law_no_depth
noncomputable def D__law_no_stem : Rho → Out := (bSeq (sSet 3 (eD tupP aNil)) (bSeq (sSet 4 (eLc [6] (iS (eV 1)) (gN 6) (tB1 (e2 neP (e2 ixP (eVo 6) (eC (.int 1))) (eC (.str "open")))) (e2 ixP (eVo 6) (eC (.int 0))))) (bSeq (sIf (tB1 (e2 neP (eVo 4) (eD lstP aNil))) (bSeq (sSet 3 (e2 ixP (eVo 4) (e2 modP (e2 fdivP (eVo 0) (eC (.int 8))) (eD lenP (aCons (eVo 4) aNil))))) bNil) bNil) (bSeq (sSet 5 (eD lstP (aCons (eD tupP aNil) (aCons (eD listP (aCons (eVo 3) aNil)) (aCons (e2 addP (eVo 3) (eD tupP (aCons (eV 2) aNil))) (aCons (e2 addP (eD tupP (aCons (e1 negP (eC (.int 1))) aNil)) (eVo 3)) (aCons (e2 addP (eVo 3) (eD tupP (aCons (eC (.int 0)) aNil))) (aCons (e2 addP (eD tupP (aCons (eC (.bl true)) aNil)) (eSl slP (eVo 3) (oSome (eC (.int 1))) oNone)) (aCons (e2 repT (eD tupP (aCons (eC (.int 0)) aNil)) (eC (.int 13))) (aCons (eC .non) aNil)))))))))) (bSeq (sRet (e2 ixP (eVo 5) (e2 modP (eVo 0) (eC (.int 8))))) bNil)))))
noncomputable def F__law_no_stem : List PV → R PV := runF 7 D__law_no_stem
noncomputable def D__law_no_end : Rho → Out := (bSeq (sRet (e2 ixP (eD lstP (aCons (e2 subP (eVo 1) (eC (.int 1))) (aCons (e2 addP (eC (.int 401)) (e2 modP (e2 fdivP (eVo 0) (eC (.int 7))) (e2 powP (eC (.int 10)) (eC (.int 20))))) (aCons (e1 negP (eC (.int 1))) (aCons (eC (.bl true)) (aCons (eC .non) (aCons (eC (.str "9")) (aCons (eD tupP (aCons (eC (.int 9)) aNil)) aNil)))))))) (e2 modP (eVo 0) (eC (.int 7))))) bNil)
noncomputable def F__law_no_end : List PV → R PV := runF 2 D__law_no_end
noncomputable def D__law_word : Rho → Out := (bSeq (sSetO 5 (eD lstP aNil)) (bSeq (sTry 6 csL (bSeq (sIf (tB1 (e2 eqP (eVo 0) (eC (.int 0)))) (bSeq (sDrop (eD F_tree_of (aCons (eV 1) (aCons (eV 2) (aCons (eV 3) aNil))))) bNil) (bSeq (sDrop (eD F_root_of (aCons (eV 1) (aCons (eV 2) (aCons (eV 3) (aCons (eV 4) aNil)))))) bNil)) bNil) (fun c a => (bSeq (sSetO 5 (eD lstP (aCons (isX 6 a (subX c "NoPrime")) (aCons (isX 6 a (subX c "NoPolynomial")) (aCons (isX 6 a (subX c "NoDepth")) (aCons (isX 6 a (subX c "NoRoot")) aNil)))))) (bSeq (sMut 5 appP (isX 6 a (subX c "NoPlace"))) (bSeq (sSet 7 (isX 6 a (List.any (["NoFigures", "NoFraction", "NoText", "Unlike", "NoQuotient"] : List Str) (subX c)))) (bSeq (sMut 5 appP (eOr (eV 7) (isX 6 a (List.any (["NoPower", "TooFew", "NoSize", "NotNear"] : List Str) (subX c))))) (bSeq (sMut 5 appP (e1 notP (isX 6 a (subX c "ValueError")))) bNil))))))) (bSeq (sRetO 5) bNil)))
noncomputable def F__law_word : List PV → R PV := runF 8 D__law_word
noncomputable def D__law_due : Rho → Out := (bSeq (sRet (eLc [1] (iR rng1 (aCons (eC (.int 7)) aNil)) (gN 1) cYes (e2 eqP (eVo 1) (eVo 0)))) bNil)
noncomputable def F__law_due : List PV → R PV := runF 2 D__law_due
noncomputable def D__law_tree_refused : Rho → Out := (bSeq (sSet 4 (e2 modP (eVo 0) (eC (.int 3)))) (bSeq (sSet 5 (e2 eqP (e2 modP (e2 fdivP (eVo 0) (eC (.int 3))) (eC (.int 4))) (eC (.int 1)))) (bSeq (sSetO 6 (eD lstP (aCons (eV 1) (aCons (eV 2) (aCons (eV 3) aNil))))) (bSeq (sFor (iR rng1 (aCons (eC (.int 3)) aNil)) (gN 7) (bSeq (sIf (tOr' (tB1 (e2 eqP (eVo 7) (eVo 4))) (tAn (tB1 (e2 gtP (eVo 7) (eVo 4))) (tB1 (eV 5)))) (bSeq (sSetI 6 (pickL F__law_no_prime F__law_no_poly F__law_no_depth (eVo 7) (aCons (e2 fdivP (eVo 0) (eC (.int 12))) aNil)) (eV 7)) bNil) bNil) bNil)) (bSeq (sRet (e2 eqP (eD F__law_word (aCons (eC (.int 0)) (aCons (e2 ixP (eVo 6) (eC (.int 0))) (aCons (e2 ixP (eVo 6) (eC (.int 1))) (aCons (e2 ixP (eVo 6) (eC (.int 2))) (aCons (eC (.int 0)) aNil)))))) (eD F__law_due (aCons (eV 4) aNil)))) bNil)))))
noncomputable def F__law_tree_refused : List PV → R PV := runF 8 D__law_tree_refused
noncomputable def D__law_root_refused : Rho → Out := (bSeq (sSet 5 (e2 modP (eVo 0) (eC (.int 4)))) (bSeq (sSet 6 (e2 eqP (e2 modP (e2 fdivP (eVo 0) (eC (.int 4))) (eC (.int 4))) (eC (.int 1)))) (bSeq (sIf (tAn (tB1 (e2 eqP (eVo 5) (eC (.int 3)))) (tB1 (e2 eqP (eVo 4) (eD lstP aNil)))) (bSeq (sSet 5 (eC (.int 2))) bNil) bNil) (bSeq (sSet 7 (eD tupP aNil)) (bSeq (sIf (tB1 (e2 neP (eVo 4) (eD lstP aNil))) (bSeq (sSet 7 (e2 ixP (e2 ixP (eVo 4) (e2 modP (e2 fdivP (eVo 0) (eC (.int 16))) (eD lenP (aCons (eVo 4) aNil)))) (eC (.int 0)))) bNil) bNil) (bSeq (sSetO 8 (eD lstP (aCons (eV 1) (aCons (eV 2) (aCons (eV 7) (aCons (e2 addP (eD lenP (aCons (eVo 7) aNil)) (e2 modP (e2 fdivP (eVo 0) (eC (.int 16))) (eC (.int 9)))) aNil)))))) (bSeq (sIf (tB1 (e2 eqP (eVo 5) (eC (.int 0)))) (bSeq (sSetI 8 (eD F__law_no_prime (aCons (e2 fdivP (eVo 0) (eC (.int 16))) aNil)) (eC (.int 0))) bNil) bNil) (bSeq (sIf (tOr' (tB1 (e2 eqP (eVo 5) (eC (.int 1)))) (tAn (tB1 (eV 6)) (tB1 (e2 ltP (eVo 5) (eC (.int 1)))))) (bSeq (sSetI 8 (eD F__law_no_poly (aCons (e2 fdivP (eVo 0) (eC (.int 16))) aNil)) (eC (.int 1))) bNil) bNil) (bSeq (sIf (tOr' (tB1 (e2 eqP (eVo 5) (eC (.int 2)))) (tAn (tB1 (eV 6)) (tB1 (e2 ltP (eVo 5) (eC (.int 2)))))) (bSeq (sSetI 8 (eD F__law_no_stem (aCons (e2 fdivP (eVo 0) (eC (.int 16))) (aCons (eV 3) (aCons (eV 1) aNil)))) (eC (.int 2))) bNil) bNil) (bSeq (sIf (tOr' (tB1 (e2 eqP (eVo 5) (eC (.int 3)))) (tAn (tB1 (eV 6)) (tB1 (e2 ltP (eVo 5) (eC (.int 3)))))) (bSeq (sSetI 8 (eD F__law_no_end (aCons (e2 fdivP (eVo 0) (eC (.int 16))) (aCons (eD lenP (aCons (eVo 7) aNil)) aNil))) (eC (.int 3))) bNil) bNil) (bSeq (sRet (e2 eqP (eD F__law_word (aCons (eC (.int 1)) (aCons (e2 ixP (eVo 8) (eC (.int 0))) (aCons (e2 ixP (eVo 8) (eC (.int 1))) (aCons (e2 ixP (eVo 8) (eC (.int 2))) (aCons (e2 ixP (eVo 8) (eC (.int 3))) aNil)))))) (eD F__law_due (aCons (e2 ixP (eD lstP (aCons (eC (.int 0)) (aCons (eC (.int 1)) (aCons (eC (.int 3)) (aCons (eC (.int 4)) aNil))))) (eVo 5)) aNil)))) bNil)))))))))))
noncomputable def F__law_root_refused : List PV → R PV := runF 9 D__law_root_refused
noncomputable def D_law : Rho → Out := (bSeq (sTo (gT (gsCons (gN 1) (gsCons (gN 2) (gsCons (gN 3) gsNil)))) (eD F__law_asked (aCons (eV 0) aNil))) (bSeq (sSet 4 (eD F_tree_of (aCons (eV 1) (aCons (eV 2) (aCons (eV 3) aNil))))) (bSeq (sSet 5 (eLc [10] (iS (eV 4)) (gN 10) (tB1 (e2 eqP (e2 ixP (eVo 10) (eC (.int 1))) (eC (.str "one")))) (eV 10))) (bSeq (sSet 6 (eD listP (aCons (eVo 2) aNil))) (bSeq (sFor (iS (e2 addP (eSl slP (eVo 0) (oSome (eC (.int 7))) (oSome (eC (.int 31)))) (eD lstP (aCons (eC (.int 1)) aNil)))) (gN 7) (bSeq (sIf (tNt (tB1 (eD F__law_tree_refused (aCons (e2 fdivP (eVo 7) (eC (.int 2))) (aCons (eV 1) (aCons (eV 2) (aCons (eV 3) aNil))))))) (bSeq (sRet (eC (.bl false))) bNil) bNil) (bSeq (sIf (tNt (tB1 (eD F__law_root_refused (aCons (e2 fdivP (eVo 7) (eC (.int 2))) (aCons (eV 1) (aCons (eV 2) (aCons (eV 4) (aCons (eV 5) aNil)))))))) (bSeq (sRet (eC (.bl false))) bNil) bNil) (bSeq (sSet 8 (eLc [10] (iS (eV 4)) (gN 10) (tB1 (e2 neP (e2 ixP (eVo 10) (eC (.int 1))) (eC (.str "one")))) (eV 10))) (bSeq (sIf (tB1 (e2 neP (eVo 8) (eD lstP aNil))) (bSeq (sSet 9 (e2 ixP (e2 ixP (eVo 8) (e2 modP (e2 fdivP (eVo 7) (eC (.int 2))) (eD lenP (aCons (eVo 8) aNil)))) (eC (.int 0)))) (bSeq (sIf (tB1 (e2 neP (eD F__law_word (aCons (eC (.int 1)) (aCons (eV 1) (aCons (eV 2) (aCons (eV 9) (aCons (eC (.int 400)) aNil)))))) (eD F__law_due (aCons (eC (.int 3)) aNil)))) (bSeq (sRet (eC (.bl false))) bNil) bNil) bNil)) bNil) bNil))))) (bSeq (sRet (e2 eqP (eVo 2) (eVo 6))) bNil))))))
noncomputable def F_law : List PV → R PV := runF 11 D_law
end K68
set_option Elab.async false
set_option linter.all false
set_option maxRecDepth 100000
set_option autoImplicit false
set_option exponentiation.threshold 20000
set_option maxHeartbeats 0
namespace K68
open PySem PySem.Spec L2 PL PM
open PyProof.Rows hiding St
theorem f_cell (ns : List Int) (k : Int) (h : 0 ≤ k) : F__law_cell_at [.frz (ns.map PV.int), .int k] = .ok (.int (nth ns k)) := by
  show (D__law_cell_at [.val (.frz (ns.map PV.int)), .val (.int k)]).res = _
  by_cases hk : k < ns.length
  · simp [D__law_cell_at, hk, ixP_intsF h hk]
  · have : ns[k.toNat]? = none := List.getElem?_eq_none (by omega)
    simp [D__law_cell_at, hk, nth, this]
theorem f_prime_l (c : Int) : ∃ p ∈ primesL, F__law_prime [.int c] = .ok (.int p) := by
  have d5 := fdivP_sm (a := c) (b := 5) (by omega) (by omega)
  have m16 := modP_pos (a := c / 5) (b := 16) (by omega)
  have d80 := fdivP_sm (a := c) (b := 80) (by omega) (by omega)
  have m20 := modP_pos (a := c / 80) (b := 20) (by omega)
  have m5 := modP_pos (a := c) (b := 5) (by omega)
  have ll : ∀ l : List PV, l.length ≤ 100 → lstP l = .ok (.lst l) := fun l h => lstP_ok (by omega)
  let L1 : List Int := [13, 17, 19, 23, 29, 31, 37, 41, 43, 47, 53, 59, 61, 67, 71, 73, 79, 83, 89, 97]
  let L2 : List Int := [2, 3, 5, 7, 11]
  have l1 : L1.length = 20 := rfl
  have l2 : L2.length = 5 := rfl
  have e1 : lstP [.int 13, .int 17, .int 19, .int 23, .int 29, .int 31, .int 37, .int 41, .int 43, .int 47, .int 53, .int 59, .int 61, .int 67, .int 71, .int 73, .int 79, .int 83, .int 89, .int 97] = .ok (.lst (L1.map PV.int)) := ll _ (by simp only [List.length_cons, List.length_nil]; omega)
  have e2 : lstP [.int 2, .int 3, .int 5, .int 7, .int 11] = .ok (.lst (L2.map PV.int)) := ll _ (by simp only [List.length_cons, List.length_nil]; omega)
  have i1 : ixP (.lst (L1.map PV.int)) (.int (c / 80 % 20)) = .ok (.int (nth L1 (c / 80 % 20))) := ixP_ints (by omega) (by omega)
  have i2 : ixP (.lst (L2.map PV.int)) (.int (c % 5)) = .ok (.int (nth L2 (c % 5))) := ixP_ints (by omega) (by omega)
  have go : ∀ {o : R PV}, (D__law_prime [.val (.int c)]).res = o → F__law_prime [.int c] = o := fun h => (runF_eq (n := 1) (u := D__law_prime)).trans h
  by_cases h : c / 5 % 16 = 7
  · have h' : (c / 5 % 16 == 7) = true := by rw [beq_iff_eq]; exact h
    refine ⟨nth L1 (c / 80 % 20), ?_, go ?_⟩
    · have : ∀ x ∈ L1, x ∈ primesL := by decide
      exact this _ (nth_mem (by omega) (by omega))
    · simp only [D__law_prime, bSeq_eq, sIf_eq, tB1_eq, e2_eq, eVo0, eC_eq, bind1, d5, m16, eqP_ii, h', asB_eq, stB_ok, if_true, sRet_eq, eD_eq, aCons_eq, aNil_eq, e1, d80, m20, i1, st_ok, then_ret, res_ret]
  · have h' : (c / 5 % 16 == 7) = false := by rw [beq_eq_false_iff_ne]; exact h
    refine ⟨nth L2 (c % 5), ?_, go ?_⟩
    · have : ∀ x ∈ L2, x ∈ primesL := by decide
      exact this _ (nth_mem (by omega) (by omega))
    · simp only [D__law_prime, bSeq_eq, sIf_eq, tB1_eq, e2_eq, eVo0, eC_eq, bind1, d5, m16, eqP_ii, h', asB_eq, stB_ok, if_neg Bool.false_ne_true, bNil_eq, then_next, sRet_eq, eD_eq, aCons_eq, aNil_eq, e2, m5, i2, st_ok, then_ret, res_ret]
theorem row_loop_l {a b : List Int} (x y : PV) (hx : x = .lst (a.map PV.int)) (hy : y = .lst (b.map PV.int)) (k : Nat) (hk : k < a.length) (ha : ∀ c ∈ a, c.natAbs < 2 ^ 300) (hb : ∀ c ∈ b, c.natAbs < 2 ^ 300) (hs : a.length + b.length ≤ 1000) (L : List Int) (h : Part a b L k 0) (s4 : Slot) :
    ∃ (L' : List Int) (s4' : Slot), forL (gN 4) (bSeq (sSetI 2 (e2 addP (e2 ixP (eVo 2) (e2 addP (eVo 3) (eVo 4))) (e2 mulP (e2 ixP (eVo 0) (eVo 3)) (e2 ixP (eVo 1) (eVo 4)))) (e2 addP (eVo 3) (eVo 4))) bNil) (rngL 0 b.length) [.val x, .val y, .own (L.map PV.int), .val (.int k), s4] = .next [.val x, .val y, .own (L'.map PV.int), .val (.int k), s4'] ∧ Part a b L' k b.length := by
  obtain ⟨ρ', i, L', s4', rfl, w⟩ := forL_rng (tgt := gN 4) (body := bSeq (sSetI 2 (e2 addP (e2 ixP (eVo 2) (e2 addP (eVo 3) (eVo 4))) (e2 mulP (e2 ixP (eVo 0) (eVo 3)) (e2 ixP (eVo 1) (eVo 4)))) (e2 addP (eVo 3) (eVo 4))) bNil)
    (fun m ρ => ∃ (L' : List Int) (s4 : Slot), ρ = [.val x, .val y, .own (L'.map PV.int), .val (.int k), s4] ∧ Part a b L' k m) 0 b.length [.val x, .val y, .own (L.map PV.int), .val (.int k), s4] ⟨L, s4, rfl, h⟩ (fun m ρ hm ⟨L, s4, e, h⟩ => by
      subst e
      have L1 := h.1
      have SA : SeqI x a := .inl hx
      have SB : SeqI y b := .inl hy
      have SL : SeqI (.lst (L.map PV.int)) L := .inl rfl
      have ia := SA.ix k hk
      have ib := SB.ix m hm
      have il := SL.ix (k + m) (by omega)
      have am : (a.getD k 0).natAbs < 2 ^ 300 := by rw [List.getD_eq_getElem?_getD, List.getElem?_eq_getElem hk]; exact ha _ (List.getElem_mem hk)
      have bm : (b.getD m 0).natAbs < 2 ^ 300 := by rw [List.getD_eq_getElem?_getD, List.getElem?_eq_getElem hm]; exact hb _ (List.getElem_mem hm)
      have mm : mulP (.int (a.getD k 0)) (.int (b.getD m 0)) = .ok (.int (a.getD k 0 * b.getD m 0)) := mulP_ii (okMul_of am bm (by omega) (by omega) (by omega))
      have sp : setP (L.map PV.int) (.int (L.getD (k + m) 0 + a.getD k 0 * b.getD m 0)) (.int ((k : Int) + (m : Int))) = .ok ((L.set (k + m) (at0 L (k + m) + at0 a k * at0 b m)).map PV.int) := by
        rw [setP_ok (by omega) (by rw [List.length_map]; omega), List.map_set, show ((k : Int) + (m : Int)).toNat = k + m by omega]; rfl
      rw [Int.natCast_add] at il
      refine ⟨_, .inl ?_, _, .val (.int (0 + (m : Int))), rfl, h.next hk hm⟩
      simp only [turnL, gN_eq, List.set_cons_succ, List.set_cons_zero, show (0 : Int) + (m : Int) = m by omega, bSeq_eq, sSetI_eq, getOwn0, getOwnS, onOwn_some, e2_eq, eVos, eVo0, eVo0', bind1, addP_ii, il, ia, ib, mm, st_ok, sp, own_ok, then_next, bNil_eq])
  exact ⟨L', s4', i, w⟩
theorem f_product_l {a b : List Int} (a1 : 1 ≤ a.length) (b1 : 1 ≤ b.length) (hs : a.length + b.length ≤ 1000) (ha : ∀ c ∈ a, c.natAbs < 2 ^ 300) (hb : ∀ c ∈ b, c.natAbs < 2 ^ 300) : F__law_product [.lst (a.map PV.int), .lst (b.map PV.int)] = .ok (.lst ((prodL a b).map PV.int)) := by
  obtain ⟨X, hX⟩ : ∃ X, X = PV.lst (a.map PV.int) := ⟨_, rfl⟩
  obtain ⟨Y, hY⟩ : ∃ Y, Y = PV.lst (b.map PV.int) := ⟨_, rfl⟩
  have l1 : lenP [X] = .ok (.int a.length) := by rw [hX]; simp
  have l2 : lenP [Y] = .ok (.int b.length) := by rw [hY]; simp
  have r1 : rng1 [.int (a.length : Int)] = .ok (rngL 0 a.length) := by rw [rng1_sm (by omega) (by omega)]; rfl
  have r2 : rng1 [.int (b.length : Int)] = .ok (rngL 0 b.length) := by rw [rng1_sm (by omega) (by omega)]; rfl
  have r3 : rng1 [.int ((a.length : Int) + (b.length : Int) - 1)] = .ok (rngL 0 (a.length + b.length - 1)) := by rw [rng1_sm (by omega) (by omega), show ((a.length : Int) + (b.length : Int) - 1).toNat = a.length + b.length - 1 by omega]
  have go : lcGo (gN 3) cYes (eC (.int 0)) [.val X, .val Y, .un, .un, .un] (rngL 0 (a.length + b.length - 1)) = .ok ((rngL 0 (a.length + b.length - 1)).map fun _ => PV.int 0) := lcGo_map _ _ fun q hq => ⟨_, rfl, rfl⟩
  have e0 : ((rngL 0 (a.length + b.length - 1)).map fun _ => PV.int 0) = (List.replicate (a.length + b.length - 1) (0 : Int)).map PV.int := by
    rw [List.map_replicate]
    refine List.eq_replicate_iff.mpr ⟨by rw [List.length_map, rngL_len], fun q hq => ?_⟩
    obtain ⟨_, _, rfl⟩ := List.mem_map.mp hq
    rfl
  rw [e0] at go
  have LC := eLc_ok (vs := [3]) (it := iR rng1 (aCons (e2 subP (e2 addP (eD lenP (aCons (eVo 0) aNil)) (eD lenP (aCons (eVo 1) aNil))) (eC (.int 1))) aNil)) (ρ := [.val X, .val Y, .un, .un, .un]) (items := rngL 0 (a.length + b.length - 1)) rfl (by simp only [iR_eq, e2_eq, eD_eq, aCons_eq, aNil_eq, eC_eq, eVos, eVo0, bind1, l1, l2, addP_ii, subP_ii, r3]) (by rw [rngL_len]; omega) go
  obtain ⟨ρ', i, L', s3, s4, rfl, w⟩ := forL_rng (tgt := gN 3) (body := (bSeq (sFor (iR rng1 (aCons (eD lenP (aCons (eVo 1) aNil)) aNil)) (gN 4) (bSeq (sSetI 2 (e2 addP (e2 ixP (eVo 2) (e2 addP (eVo 3) (eVo 4))) (e2 mulP (e2 ixP (eVo 0) (eVo 3)) (e2 ixP (eVo 1) (eVo 4)))) (e2 addP (eVo 3) (eVo 4))) bNil)) bNil))
    (fun k ρ => ∃ (L' : List Int) (s3 s4 : Slot), ρ = [.val X, .val Y, .own (L'.map PV.int), s3, s4] ∧ Part a b L' k 0) 0 a.length [.val X, .val Y, .own ((List.replicate (a.length + b.length - 1) (0 : Int)).map PV.int), .un, .un] ⟨_, .un, .un, rfl, part_zero a b (by omega)⟩ (fun k ρ hk ⟨L, s3, s4, e, h⟩ => by
      subst e
      obtain ⟨L1, s4', i1, w1⟩ := row_loop_l X Y hX hY k hk ha hb hs L h s4
      refine ⟨_, .inl ?_, L1, .val (.int k), s4', rfl, w1.row⟩
      simp only [turnL, gN_eq, List.set_cons_succ, List.set_cons_zero, show (0 : Int) + (k : Int) = k by omega]
      exact sqF (rngL 0 b.length) (by simp only [iR_eq, eD_eq, aCons_eq, aNil_eq, eVos, eVo0, bind1, l2, r2]) i1 rfl)
  rw [w.done] at i
  rw [← hX, ← hY]
  refine (runF_eq (n := 5) (u := D__law_product)).trans ?_
  show (D__law_product [.val X, .val Y, .un, .un, .un]).res = _
  unfold D__law_product
  refine stpN (ρ' := [.val X, .val Y, .own ((List.replicate (a.length + b.length - 1) (0 : Int)).map PV.int), .un, .un]) (by rw [sSetO_eq, LC, st_ok]; rfl) ?_
  refine stpFor (rngL 0 a.length) _ (by simp only [iR_eq, eD_eq, aCons_eq, aNil_eq, eVo0, bind1, l1, r1]) i ?_
  simp only [bSeq_eq, sRetO_eq, getOwn0, getOwnS, onOwn_some, then_ret, res_ret]
def facV (q : Int × Int) : PV := .tup [.int q.1, .int q.2]
theorem step_le : ∀ p ∈ primesL, ∀ n ∈ List.range (if p < 4 then 11 else 3), p * p ^ n < 1000000 := by decide
theorem okd_facs (fs : List (Int × Int)) : okD 30 (.lst (fs.map facV)) = true := by simp [okD, facV]
theorem factor_loop {p : Int} (hp : p ∈ primesL) (x : PV) : ∀ (cs : List Int) (fs : List (Int × Int)) (s3 s4 s5 s6 s7 : Slot), fs.length + cs.length ≤ 20 → (∀ q ∈ fs, q.1.natAbs ≤ 20 + 3000000 * fs.length ∧ 1 ≤ q.2 ∧ q.2 ≤ 97) →
    ∃ (fs' : List (Int × Int)) (s3' s4' s5' s6' s7' : Slot), forL (gN 3) (bSeq (sSet 4 (e2 subP (e2 modP (eVo 3) (eC (.int 41))) (eC (.int 20)))) (bSeq (sSet 5 (e2 ixP (eD lstP (aCons (eC (.int 1)) (aCons (eC (.int 1)) (aCons (eC (.int 1)) (aCons (eC (.int 2)) (aCons (eC (.int 3)) (aCons (eV 1) aNil))))))) (e2 modP (e2 fdivP (eVo 3) (eC (.int 41))) (eC (.int 6))))) (bSeq (sIf (tAn (tB1 (e2 eqP (e2 modP (e2 fdivP (eVo 3) (eC (.int 246))) (eC (.int 3))) (eC (.int 1)))) (tB1 (e2 neP (eVo 2) (eD lstP aNil)))) (bSeq (sSet 6 (eV 1)) (bSeq (sFor (iR rng1 (aCons (e2 modP (e2 fdivP (eVo 3) (eC (.int 738))) (e2 ixP (eD lstP (aCons (eC (.int 3)) (aCons (eC (.int 11)) aNil))) (eD intP1 (aCons (e2 ltP (eVo 1) (eC (.int 4))) aNil)))) aNil)) (gN 7) (bSeq (sSet 6 (e2 mulP (eVo 6) (eVo 1))) bNil)) (bSeq (sSet 4 (e2 addP (e2 ixP (e2 ixP (eVo 2) (e1 negP (eC (.int 1)))) (eC (.int 0))) (e2 mulP (eVo 6) (e2 addP (eC (.int 1)) (e2 modP (e2 fdivP (eVo 3) (eC (.int 2214))) (eC (.int 3))))))) (bSeq (sSet 5 (e2 ixP (e2 ixP (eVo 2) (e1 negP (eC (.int 1)))) (eC (.int 1)))) bNil)))) bNil) (bSeq (sMut 2 appP (eD tupP (aCons (eV 4) (aCons (eV 5) aNil)))) bNil)))) (cs.map PV.int) [.val x, .val (.int p), .own (fs.map facV), s3, s4, s5, s6, s7] = .next [.val x, .val (.int p), .own (fs'.map facV), s3', s4', s5', s6', s7'] ∧ fs'.length = fs.length + cs.length ∧ ∀ q ∈ fs', q.1.natAbs ≤ 20 + 3000000 * fs'.length ∧ 1 ≤ q.2 ∧ q.2 ≤ 97
  | [], fs, s3, s4, s5, s6, s7, _, h => ⟨fs, s3, s4, s5, s6, s7, by rw [List.map_nil, forL_nil], rfl, h⟩
  | c :: cs, fs, s3, s4, s5, s6, s7, hl, h => by
    rw [List.length_cons] at hl
    have pb := primesL_le p hp
    have m41 := modP_pos (a := c) (b := 41) (by omega)
    have d41 := fdivP_sm (a := c) (b := 41) (by omega) (by omega)
    have m6 := modP_pos (a := c / 41) (b := 6) (by omega)
    have d246 := fdivP_sm (a := c) (b := 246) (by omega) (by omega)
    have m3 := modP_pos (a := c / 246) (b := 3) (by omega)
    have d738 := fdivP_sm (a := c) (b := 738) (by omega) (by omega)
    have d2214 := fdivP_sm (a := c) (b := 2214) (by omega) (by omega)
    have m3' := modP_pos (a := c / 2214) (b := 3) (by omega)
    have l6 : lstP [.int 1, .int 1, .int 1, .int 2, .int 3, .int p] = .ok (.lst (([1, 1, 1, 2, 3, p] : List Int).map PV.int)) := lstP_ok (by simp only [List.length_cons, List.length_nil]; omega)
    have i6 : ixP (.lst (([1, 1, 1, 2, 3, p] : List Int).map PV.int)) (.int (c / 41 % 6)) = .ok (.int (nth [1, 1, 1, 2, 3, p] (c / 41 % 6))) := ixP_ints (by omega) (by simp only [List.length_cons, List.length_nil]; omega)
    obtain ⟨b0, hb0⟩ : ∃ b0, b0 = nth [1, 1, 1, 2, 3, p] (c / 41 % 6) := ⟨_, rfl⟩
    have b0b : 1 ≤ b0 ∧ b0 ≤ 97 := by
      have : b0 ∈ ([1, 1, 1, 2, 3, p] : List Int) := by rw [hb0]; exact nth_mem (by omega) (by simp only [List.length_cons, List.length_nil]; omega)
      simp only [List.mem_cons, List.not_mem_nil, or_false] at this
      omega
    rw [← hb0] at i6
    obtain ⟨t0, ht0⟩ : ∃ t0, t0 = c % 41 - 20 := ⟨_, rfl⟩
    -- one turn
    obtain ⟨q, s6', s7', hq, turn⟩ : ∃ (q : Int × Int) (s6' s7' : Slot), (q.1.natAbs ≤ 20 + 3000000 * (fs.length + 1) ∧ 1 ≤ q.2 ∧ q.2 ≤ 97) ∧ (sIf (tAn (tB1 (e2 eqP (e2 modP (e2 fdivP (eVo 3) (eC (.int 246))) (eC (.int 3))) (eC (.int 1)))) (tB1 (e2 neP (eVo 2) (eD lstP aNil)))) (bSeq (sSet 6 (eV 1)) (bSeq (sFor (iR rng1 (aCons (e2 modP (e2 fdivP (eVo 3) (eC (.int 738))) (e2 ixP (eD lstP (aCons (eC (.int 3)) (aCons (eC (.int 11)) aNil))) (eD intP1 (aCons (e2 ltP (eVo 1) (eC (.int 4))) aNil)))) aNil)) (gN 7) (bSeq (sSet 6 (e2 mulP (eVo 6) (eVo 1))) bNil)) (bSeq (sSet 4 (e2 addP (e2 ixP (e2 ixP (eVo 2) (e1 negP (eC (.int 1)))) (eC (.int 0))) (e2 mulP (eVo 6) (e2 addP (eC (.int 1)) (e2 modP (e2 fdivP (eVo 3) (eC (.int 2214))) (eC (.int 3))))))) (bSeq (sSet 5 (e2 ixP (e2 ixP (eVo 2) (e1 negP (eC (.int 1)))) (eC (.int 1)))) bNil)))) bNil)
        [.val x, .val (.int p), .own (fs.map facV), .val (.int c), .val (.int t0), .val (.int b0), s6, s7] = .next [.val x, .val (.int p), .own (fs.map facV), .val (.int c), .val (.int q.1), .val (.int q.2), s6', s7'] := by
      by_cases h1 : c / 246 % 3 = 1 ∧ fs ≠ []
      · obtain ⟨h1, h2⟩ := h1
        have h1' : (c / 246 % 3 == 1) = true := by rw [beq_iff_eq]; exact h1
        obtain ⟨fr, fl, rfl⟩ : ∃ fr fl, fs = fr ++ [fl] := ⟨fs.dropLast, fs.getLast h2, (List.dropLast_concat_getLast h2).symm⟩
        have n2 : neP (.lst ((fr ++ [fl]).map facV)) (.lst []) = .ok (.bl true) := by
          rw [neP_ok (okd_facs _) (by simp [okD])]
          cases fr <;> simp [facV]
        have la : ixP (.lst ((fr ++ [fl]).map facV)) (.int (-1)) = .ok (facV fl) := by rw [List.map_append]; exact ixP_last _ _
        have f0 : ixP (facV fl) (.int 0) = .ok (.int fl.1) := by simp [facV]
        have f1 : ixP (facV fl) (.int 1) = .ok (.int fl.2) := by simp [facV]
        have l2 : lstP [.int 3, .int 11] = .ok (.lst [.int 3, .int 11]) := lstP_ok (by simp)
        obtain ⟨M, hM, hMi⟩ : ∃ M : Nat, M = (if p < 4 then 11 else 3) ∧ ((ltP (.int p) (.int 4)).bind fun w => (intP1 [w]).bind fun z => ixP (.lst [.int 3, .int 11]) z) = .ok (.int M) := by
          by_cases p4 : p < 4
          · exact ⟨11, by rw [if_pos p4], by rw [ltP_ii, bind1, decide_eq_true p4]; rfl⟩
          · exact ⟨3, by rw [if_neg p4], by rw [ltP_ii, bind1, decide_eq_false p4]; rfl⟩
        have M0 : 0 < M ∧ M ≤ 11 := by rw [hM]; split <;> omega
        have mM := modP_pos (a := c / 738) (b := M) (by omega)
        obtain ⟨n, hn⟩ : ∃ n : Nat, c / 738 % (M : Int) = n := ⟨(c / 738 % (M : Int)).toNat, by have := Int.emod_nonneg (c / 738) (show (M : Int) ≠ 0 by omega); omega⟩
        have nM : n < M := by have := Int.emod_lt_of_pos (c / 738) (show 0 < (M : Int) by omega); omega
        have st := step_le p hp n (List.mem_range.mpr (by rw [← hM]; exact nM))
        have st0 : 0 ≤ p * p ^ n := Int.mul_nonneg (by omega) (Int.pow_nonneg (by omega))
        rw [hn] at mM
        have r1 : rng1 [.int (n : Int)] = .ok (rngL 0 n) := by rw [rng1_sm (by omega) (by omega)]; rfl
        obtain ⟨s7', lp⟩ := mul_loopG (i := 6) (j := 1) (a := 7) (y := p) (by omega) (by omega) (by omega) (by omega) (rngL 0 n) [.val x, .val (.int p), .own ((fr ++ [fl]).map facV), .val (.int c), .val (.int t0), .val (.int b0), .val (.int p), s7] p 7 rfl rfl (by simp) (by omega) (by omega) (by rw [rngL_len]; omega)
        rw [rngL_len] at lp
        simp only [List.set_cons_succ, List.set_cons_zero] at lp
        obtain ⟨u, hu⟩ : ∃ u, u = c / 2214 % 3 := ⟨_, rfl⟩
        rw [← hu] at m3'
        have ub : 0 ≤ u ∧ u ≤ 2 := by omega
        obtain ⟨w, hw⟩ : ∃ w, w = p * p ^ n := ⟨_, rfl⟩
        rw [← hw] at lp st st0
        have mu := mulP_sm (a := w) (b := 1 + u) (by omega) (by omega) (by omega) (by omega)
        have hfl := h fl (by simp)
        refine ⟨(fl.1 + w * (1 + u), fl.2), .val (.int w), s7', ⟨?_, hfl.2⟩, ?_⟩
        · have : (w * (1 + u)).natAbs ≤ 3000000 := by
            rcases (by omega : u = 0 ∨ u = 1 ∨ u = 2) with z | z | z <;> subst z <;> omega
          have := Int.natAbs_add_le fl.1 (w * (1 + u))
          rw [Nat.mul_add]
          show (fl.1 + w * (1 + u)).natAbs ≤ _
          omega
        · have hMi' : (R.bind (.ok (.bl (decide (p < 4)))) fun w => (intP1 [w]).bind fun z => ixP (.lst [.int 3, .int 11]) z) = .ok (.int M) := hMi
          rw [bind1] at hMi'
          have rg : iR rng1 (aCons (e2 modP (e2 fdivP (eVo 3) (eC (.int 738))) (e2 ixP (eD lstP (aCons (eC (.int 3)) (aCons (eC (.int 11)) aNil))) (eD intP1 (aCons (e2 ltP (eVo 1) (eC (.int 4))) aNil)))) aNil) [.val x, .val (.int p), .own ((fr ++ [fl]).map facV), .val (.int c), .val (.int t0), .val (.int b0), .val (.int p), s7] = .ok (rngL 0 n) := by
            simp only [iR_eq, aCons_eq, aNil_eq, e2_eq, eD_eq, eC_eq, eVos, eVo0, bind1, d738, l2, ltP_ii, hMi', mM, r1]
          simp only [sIf_eq, tAn_eq, tB1_eq, e2_eq, eVos, eVo0, eVo0', eC_eq, bind1, d246, m3, eqP_ii, h1', asB_eq, if_true, eD_eq, aNil_eq, lstP0, n2, stB_ok]
          refine sqS (.int p) (by simp only [eVs, eV0]) ?_
          simp only [List.set_cons_succ, List.set_cons_zero]
          refine sqF (rngL 0 n) rg lp ?_
          refine sqS (.int (fl.1 + w * (1 + u))) (by simp only [e2_eq, e1_eq, eVos, eVo0, eVo0', eC_eq, bind1, negP_eq, la, f0, d2214, m3', addP_ii, mu]) ?_
          simp only [List.set_cons_succ, List.set_cons_zero]
          refine sqS (.int fl.2) (by simp only [e2_eq, e1_eq, eVos, eVo0, eVo0', eC_eq, bind1, negP_eq, la, f1]) ?_
          simp only [List.set_cons_succ, List.set_cons_zero, bNil_eq]
      · refine ⟨(t0, b0), s6, s7, ⟨?_, b0b⟩, ?_⟩
        · show t0.natAbs ≤ _
          omega
        · have t : tAn (tB1 (e2 eqP (e2 modP (e2 fdivP (eVo 3) (eC (.int 246))) (eC (.int 3))) (eC (.int 1)))) (tB1 (e2 neP (eVo 2) (eD lstP aNil))) [.val x, .val (.int p), .own (fs.map facV), .val (.int c), .val (.int t0), .val (.int b0), s6, s7] = .ok false := by
            by_cases h2 : c / 246 % 3 = 1
            · have h2' : (c / 246 % 3 == 1) = true := by rw [beq_iff_eq]; exact h2
              have : fs = [] := Classical.byContradiction fun z => h1 ⟨h2, z⟩
              subst this
              have n2 : neP (.lst (([] : List (Int × Int)).map facV)) (.lst []) = .ok (.bl false) := by
                rw [neP_ok (okd_facs _) (by simp [okD])]; simp
              simp only [tAn_eq, tB1_eq, e2_eq, eVos, eVo0, eVo0', eC_eq, bind1, d246, m3, eqP_ii, h2', asB_eq, if_true, eD_eq, aNil_eq, lstP0, n2]
            · have h2' : (c / 246 % 3 == 1) = false := by rw [beq_eq_false_iff_ne]; exact h2
              simp only [tAn_eq, tB1_eq, e2_eq, eVos, eVo0, eC_eq, bind1, d246, m3, eqP_ii, h2', asB_eq, if_neg Bool.false_ne_true]
          rw [sIf_eq, t, stB_ok, if_neg Bool.false_ne_true, bNil_eq]
    obtain ⟨fs', s3', s4', s5', s6'', s7'', ih, il, ib⟩ := factor_loop hp x cs (fs ++ [q]) (.val (.int c)) (.val (.int q.1)) (.val (.int q.2)) s6' s7' (by rw [List.length_append, List.length_singleton]; omega) (fun z hz => by
      rw [List.length_append, List.length_singleton]
      rcases List.mem_append.mp hz with hz | hz
      · have := h z hz; omega
      · rw [List.mem_singleton.mp hz]; exact hq)
    refine ⟨fs', s3', s4', s5', s6'', s7'', ?_, by rw [il, List.length_append, List.length_singleton, List.length_cons]; omega, ib⟩
    rw [← ih, List.map_cons, forL_cons, gN_eq, onR_some]
    simp only [List.set_cons_succ, List.set_cons_zero]
    have ap : appP (fs.map facV) (.tup [.int q.1, .int q.2]) = .ok ((fs ++ [q]).map facV) := by
      rw [appP_ok (by rw [List.length_map]; omega), List.map_append]; rfl
    refine foN ?_
    refine sqS (.int t0) (by simp only [e2_eq, eVos, eVo0, eC_eq, bind1, m41, subP_ii, ht0]) ?_
    simp only [List.set_cons_succ, List.set_cons_zero]
    refine sqS (.int b0) (by simp only [e2_eq, eD_eq, aCons_eq, aNil_eq, eVos, eVo0, eVs, eV0, eC_eq, bind1, l6, d41, m6, i6]) ?_
    simp only [List.set_cons_succ, List.set_cons_zero]
    refine sqN turn ?_
    simp only [bSeq_eq, sMut_eq, getOwn0, getOwnS, onOwn_some, eD_eq, aCons_eq, aNil_eq, eVs, eV0, bind1, tupP2, st_ok, ap, own_ok, then_next, bNil_eq, List.set_cons_succ, List.set_cons_zero]
theorem f_factors {p : Int} (hp : p ∈ primesL) (cs : List Int) (hl : cs.length ≤ 20) : ∃ fs : List (Int × Int), F__law_factors [.lst (cs.map PV.int), .int p] = .ok (.lst (fs.map facV)) ∧ fs.length = cs.length ∧ ∀ q ∈ fs, q.1.natAbs < 2 ^ 26 ∧ 1 ≤ q.2 ∧ q.2 ≤ 97 := by
  obtain ⟨fs, s3, s4, s5, s6, s7, i, il, ib⟩ := factor_loop hp (.lst (cs.map PV.int)) cs [] .un .un .un .un .un (by simpa using hl) (fun _ z => nomatch z)
  refine ⟨fs, ?_, by simpa using il, fun q hq => ?_⟩
  · refine (runF_eq (n := 8) (u := D__law_factors)).trans ?_
    show (D__law_factors [.val (.lst (cs.map PV.int)), .val (.int p), .un, .un, .un, .un, .un, .un]).res = _
    unfold D__law_factors
    refine stpN (ρ' := [.val (.lst (cs.map PV.int)), .val (.int p), .own [], .un, .un, .un, .un, .un]) (by
      simp only [sSetO_eq, eD_eq, aNil_eq, bind1, lstP0, st_ok, asL_l, own_ok, List.set_cons_succ, List.set_cons_zero]) ?_
    refine stpFor (cs.map PV.int) _ (by simp only [iS_eq, eV0, bind1, asS_l]) i ?_
    simp only [bSeq_eq, sRetO_eq, getOwn0, getOwnS, onOwn_some, then_ret, res_ret]
  · have := ib q hq
    rw [il, List.length_nil, Nat.zero_add] at this
    have h2 : 3000000 * cs.length ≤ 3000000 * 20 := Nat.mul_le_mul_left _ hl
    exact ⟨by omega, this.2⟩
/-- the cells' numbers -/
def cnum (p c : Int) : Int := (c / 5 % 19 - 9) * nth [1, 1, p, p * p, 1000000000 + c % 10000000000000000000000000000000000000000000000000000000000] (c % 5)
theorem cnum_bd {p c : Int} (hp : 2 ≤ p ∧ p ≤ 97) : (cnum p c).natAbs < 2 ^ 250 := by
  have m : nth [1, 1, p, p * p, 1000000000 + c % 10000000000000000000000000000000000000000000000000000000000] (c % 5) ∈ ([1, 1, p, p * p, 1000000000 + c % 10000000000000000000000000000000000000000000000000000000000] : List Int) := nth_mem (by omega) (by simp only [List.length_cons, List.length_nil]; omega)
  obtain ⟨b, hb⟩ : ∃ b, b = nth [1, 1, p, p * p, 1000000000 + c % 10000000000000000000000000000000000000000000000000000000000] (c % 5) := ⟨_, rfl⟩
  have pp : (p * p).natAbs < 2 ^ 14 := mul_bound (m := 7) (n := 7) (by omega) (by omega)
  unfold cnum
  rw [← hb] at m ⊢
  have bb : b.natAbs < 2 ^ 240 := by
    simp only [List.mem_cons, List.not_mem_nil, or_false] at m
    rcases m with m | m | m | m | m
    · omega
    · omega
    · omega
    · rw [m]; omega
    · omega
  exact mul_bound (m := 10) (n := 240) (by omega) bb
theorem num_loop {p : Int} (hp : 2 ≤ p ∧ p ≤ 97) (x : PV) : ∀ (cs acc : List Int) (s3 s4 s5 s6 : Slot), acc.length + cs.length ≤ 1000 →
    ∃ (s3' s4' : Slot), forL (gN 3) (bSeq (sSet 4 (e2 ixP (eD lstP (aCons (eC (.int 1)) (aCons (eC (.int 1)) (aCons (eV 1) (aCons (e2 mulP (eVo 1) (eVo 1)) (aCons (e2 addP (e2 powP (eC (.int 10)) (eC (.int 9))) (e2 modP (eVo 3) (e2 powP (eC (.int 10)) (eC (.int 58))))) aNil)))))) (e2 modP (eVo 3) (eC (.int 5))))) (bSeq (sMut 2 appP (e2 mulP (e2 subP (e2 modP (e2 fdivP (eVo 3) (eC (.int 5))) (eC (.int 19))) (eC (.int 9))) (eVo 4))) bNil)) (cs.map PV.int) [.val x, .val (.int p), .own (acc.map PV.int), s3, s4, s5, s6] = .next [.val x, .val (.int p), .own ((acc ++ cs.map (cnum p)).map PV.int), s3', s4', s5, s6]
  | [], acc, s3, s4, s5, s6, _ => ⟨s3, s4, by rw [List.map_nil, forL_nil, List.map_nil, List.append_nil]⟩
  | c :: cs, acc, s3, s4, s5, s6, hl => by
    rw [List.length_cons] at hl
    obtain ⟨b, hb⟩ : ∃ b, b = nth [1, 1, p, p * p, 1000000000 + c % 10000000000000000000000000000000000000000000000000000000000] (c % 5) := ⟨_, rfl⟩
    have hc : cnum p c = (c / 5 % 19 - 9) * b := by rw [hb]; rfl
    obtain ⟨s3', s4', ih⟩ := num_loop hp x cs (acc ++ [cnum p c]) (.val (.int c)) (.val (.int b)) s5 s6 (by rw [List.length_append, List.length_singleton]; omega)
    refine ⟨s3', s4', ?_⟩
    have e : acc ++ (c :: cs).map (cnum p) = acc ++ [cnum p c] ++ cs.map (cnum p) := by simp
    rw [e, ← ih, List.map_cons, forL_cons, gN_eq, onR_some]
    simp only [List.set_cons_succ, List.set_cons_zero]
    have m5 := modP_pos (a := c) (b := 5) (by omega)
    have d5 := fdivP_sm (a := c) (b := 5) (by omega) (by omega)
    have m19 := modP_pos (a := c / 5) (b := 19) (by omega)
    have p9 : powP (.int 10) (.int 9) = .ok (.int 1000000000) := by rw [powP_sm (by omega) (by omega) (by omega) (by omega)]; rfl
    have p58 : powP (.int 10) (.int 58) = .ok (.int 10000000000000000000000000000000000000000000000000000000000) := by rw [powP_sm (by omega) (by omega) (by omega) (by omega)]; rfl
    have m58 := modP_pos (a := c) (b := 10000000000000000000000000000000000000000000000000000000000) (by omega)
    have pp := mulP_sm (a := p) (b := p) (by omega) (by omega) (by omega) (by omega)
    have l5 : lstP [.int 1, .int 1, .int p, .int (p * p), .int (1000000000 + c % 10000000000000000000000000000000000000000000000000000000000)] = .ok (.lst (([1, 1, p, p * p, 1000000000 + c % 10000000000000000000000000000000000000000000000000000000000] : List Int).map PV.int)) := lstP_ok (by simp only [List.length_cons, List.length_nil]; omega)
    have i5 : ixP (.lst (([1, 1, p, p * p, 1000000000 + c % 10000000000000000000000000000000000000000000000000000000000] : List Int).map PV.int)) (.int (c % 5)) = .ok (.int b) := by rw [hb]; exact ixP_ints (by omega) (by simp only [List.length_cons, List.length_nil]; omega)
    have bb : b.natAbs < 2 ^ 240 := by
      have m : b ∈ ([1, 1, p, p * p, 1000000000 + c % 10000000000000000000000000000000000000000000000000000000000] : List Int) := by rw [hb]; exact nth_mem (by omega) (by simp only [List.length_cons, List.length_nil]; omega)
      have pp : (p * p).natAbs < 2 ^ 14 := mul_bound (m := 7) (n := 7) (by omega) (by omega)
      simp only [List.mem_cons, List.not_mem_nil, or_false] at m
      rcases m with m | m | m | m | m
      · omega
      · omega
      · omega
      · rw [m]; omega
      · omega
    have mu : mulP (.int (c / 5 % 19 - 9)) (.int b) = .ok (.int (cnum p c)) := by rw [hc]; exact mulP_ii (okMul_of (m := 10) (by omega) bb (by omega) (by omega) (by omega))
    have ap : appP (acc.map PV.int) (.int (cnum p c)) = .ok ((acc ++ [cnum p c]).map PV.int) := by
      rw [appP_ok (by rw [List.length_map]; omega), List.map_append]; rfl
    refine foN ?_
    refine sqS (.int b) (by simp only [e2_eq, eD_eq, aCons_eq, aNil_eq, eVos, eVo0, eVs, eV0, eC_eq, bind1, pp, p9, p58, m58, addP_ii, l5, m5, i5]) ?_
    simp only [List.set_cons_succ, List.set_cons_zero, bSeq_eq, sMut_eq, getOwn0, getOwnS, onOwn_some, e2_eq, eVos, eVo0, eC_eq, bind1, d5, m19, subP_ii, mu, st_ok, ap, own_ok, then_next, bNil_eq]
theorem facs_loop {p : Int} (x : PV) : ∀ (fs : List (Int × Int)) (as : List Int) (m : Nat) (s3 s4 s5 s6 : Slot), (∀ q ∈ fs, q.1.natAbs < 2 ^ 26 ∧ 1 ≤ q.2 ∧ q.2 ≤ 97) → NzL as → (∀ c ∈ as, c.natAbs < 2 ^ m) → m + 30 * fs.length ≤ 290 → as.length + fs.length ≤ 9 →
    ∃ (bs : List Int) (s5' s6' : Slot), forL (gT (gsCons (gN 5) (gsCons (gN 6) gsNil))) (bSeq (sSetO 2 (eD (lendF true F__law_product) (aCons (eVo 2) (aCons (eD lstP (aCons (e2 subP (eC (.int 0)) (eVo 5)) (aCons (eV 6) aNil))) aNil)))) bNil) (fs.map facV) [.val x, .val (.int p), .own (as.map PV.int), s3, s4, s5, s6] = .next [.val x, .val (.int p), .own (bs.map PV.int), s3, s4, s5', s6'] ∧ NzL bs ∧ bs.length = as.length + fs.length ∧ ∀ c ∈ bs, c.natAbs < 2 ^ (m + 30 * fs.length)
  | [], as, m, s3, s4, s5, s6, _, hn, hb, _, _ => ⟨as, s5, s6, by rw [List.map_nil, forL_nil], hn, rfl, hb⟩
  | q :: fs, as, m, s3, s4, s5, s6, hf, hn, hb, hm, hl => by
    rw [List.length_cons] at hm hl
    have hq := hf q List.mem_cons_self
    have as1 : 1 ≤ as.length := by
      cases as with
      | nil => exact absurd rfl hn.ne
      | cons _ _ => simp
    have nq : NzL [0 - q.1, q.2] := ⟨q.2, rfl, by omega⟩
    have bq : ∀ c ∈ ([0 - q.1, q.2] : List Int), c.natAbs < 2 ^ 26 := by
      intro c hc
      simp only [List.mem_cons, List.not_mem_nil, or_false] at hc
      rcases hc with rfl | rfl <;> omega
    have P := f_product_l (a := as) (b := [0 - q.1, q.2]) as1 (by simp) (by simp; omega) (fun c hc => Nat.lt_of_lt_of_le (hb c hc) (Nat.pow_le_pow_right (by omega) (by omega))) (fun c hc => Nat.lt_of_lt_of_le (bq c hc) (Nat.pow_le_pow_right (by omega) (by omega)))
    have PL' : lendF true F__law_product [.lst (as.map PV.int), .lst [.int (0 - q.1), .int q.2]] = .ok (.lst ((prodL as [0 - q.1, q.2]).map PV.int)) := lendF_ok P (by
      show noLs ((prodL as [0 - q.1, q.2]).map PV.int) = true
      generalize prodL as [0 - q.1, q.2] = L
      induction L with
      | nil => rfl
      | cons a L ih => rw [List.map_cons, noLs, ih]; rfl)
    have pl : (prodL as [0 - q.1, q.2]).length = as.length + 1 := by rw [prodL_len]; simp
    obtain ⟨bs, s5', s6', ih, i1, i2, i3⟩ := facs_loop x fs (prodL as [0 - q.1, q.2]) (m + 30) s3 s4 (.val (.int q.1)) (.val (.int q.2)) (fun z hz => hf z (List.mem_cons_of_mem _ hz)) (prodL_nz hn nq) (prodL_bd hb bq (by omega)) (by omega) (by rw [pl]; omega)
    refine ⟨bs, s5', s6', ?_, i1, by rw [i2, pl, List.length_cons]; omega, by rw [List.length_cons, show m + 30 * (fs.length + 1) = m + 30 + 30 * fs.length by omega]; exact i3⟩
    rw [← ih, List.map_cons, forL_cons]
    have g : gT (gsCons (gN 5) (gsCons (gN 6) gsNil)) (facV q) [.val x, .val (.int p), .own (as.map PV.int), s3, s4, s5, s6] = some [.val x, .val (.int p), .own (as.map PV.int), s3, s4, .val (.int q.1), .val (.int q.2)] := rfl
    rw [g, onR_some]
    refine foN ?_
    simp only [bSeq_eq, sSetO_eq, eD_eq, aCons_eq, aNil_eq, e2_eq, eVos, eVo0, eVo0', eVs, eV0, eC_eq, bind1, subP_ii, lstP2, PL', st_ok, asL_l, own_ok, List.set_cons_succ, List.set_cons_zero, then_next, bNil_eq]
theorem f_poly_l {p : Int} (hp : p ∈ primesL) (c0 : Int) (r : List Int) (h2 : 2 ≤ r.length) (h8 : r.length ≤ 8) : ∃ as : List Int, F__law_poly [.lst ((c0 :: r).map PV.int), .int p] = .ok (.lst (as.map PV.int)) ∧ NzL as ∧ 2 ≤ as.length ∧ as.length ≤ 9 ∧ ∀ c ∈ as, c.natAbs < 2 ^ 300 := by
  have pb := primesL_le p hp
  obtain ⟨X, hX⟩ : ∃ X, X = PV.lst ((c0 :: r).map PV.int) := ⟨_, rfl⟩
  have x0 : ixP X (.int 0) = .ok (.int c0) := by rw [hX]; simp
  have sx : slP X (some 1) none = .ok (.lst (r.map PV.int)) := by
    rw [hX, slP_l, cut_drop _ _ (by omega)]; rfl
  have m3 := modP_pos (a := c0) (b := 3) (by omega)
  have go : ∀ {o : R PV}, (D__law_poly [.val X, .val (.int p), .un, .un, .un, .un, .un]).res = o → F__law_poly [X, .int p] = o := fun h => (runF_eq (n := 7) (u := D__law_poly)).trans h
  rw [← hX]
  by_cases h : c0 % 3 = 0
  · have h' : (c0 % 3 == 0) = true := by rw [beq_iff_eq]; exact h
    obtain ⟨s3', s4', i⟩ := num_loop pb X r [] .un .un .un .un (by simp; omega)
    rw [List.nil_append] at i
    have rn : r ≠ [] := fun z => by rw [z] at h2; simp at h2
    obtain ⟨r', y, rfl⟩ : ∃ r' y, r = r' ++ [y] := ⟨r.dropLast, r.getLast rn, (List.dropLast_concat_getLast rn).symm⟩
    obtain ⟨w, hw⟩ : ∃ w, w = cnum p y + (if cnum p y = 0 then 1 else 0) := ⟨_, rfl⟩
    have w0 : w ≠ 0 := by rw [hw]; split <;> omega
    rw [List.length_append, List.length_singleton] at h2 h8
    have E : (r' ++ [y]).map (cnum p) = r'.map (cnum p) ++ [cnum p y] := by simp
    rw [E] at i
    have la : ixP (.lst ((r'.map (cnum p) ++ [cnum p y]).map PV.int)) (.int (-1)) = .ok (.int (cnum p y)) := by rw [List.map_append]; exact ixP_last _ _
    have ct : slP (.lst ((r'.map (cnum p) ++ [cnum p y]).map PV.int)) none (some (-1)) = .ok (.lst ((r'.map (cnum p)).map PV.int)) := by
      rw [slP_l]
      have : cutG ((r'.map (cnum p) ++ [cnum p y]).map PV.int) none (some (-1)) = (r'.map (cnum p)).map PV.int := by
        rw [List.map_append]
        exact cut_last _ _
      rw [this]
    have i1 : intP1 [.bl (cnum p y == 0)] = .ok (.int (if cnum p y = 0 then 1 else 0)) := by
      by_cases z : cnum p y = 0
      · rw [z]; rfl
      · have : (cnum p y == 0) = false := by rw [beq_eq_false_iff_ne]; exact z
        rw [this, if_neg z]; rfl
    have ad : addP (.lst ((r'.map (cnum p)).map PV.int)) (.lst [.int w]) = .ok (.lst ((r'.map (cnum p) ++ [w]).map PV.int)) := by
      rw [addP_ok (by simp; omega), List.map_append]; rfl
    refine ⟨r'.map (cnum p) ++ [w], go ?_, ⟨w, by simp, w0⟩, by simp; omega, by simp; omega, fun c hc => ?_⟩
    · unfold D__law_poly
      refine ifT (by simp only [tB1_eq, e2_eq, eVo0, eC_eq, bind1, x0, m3, eqP_ii, h', asB_eq]) ?_
      rw [bSeq_eq]
      refine (congrArg Out.res (congrArg (fun o => Out.then o _) (sqN (c := sSetO 2 (eD lstP aNil)) (ρ' := [.val X, .val (.int p), .own [], .un, .un, .un, .un]) (by
        simp only [sSetO_eq, eD_eq, aNil_eq, bind1, lstP0, st_ok, asL_l, own_ok, List.set_cons_succ, List.set_cons_zero]) (sqF ((r' ++ [y]).map PV.int) (by simp only [iS_eq, eSl_eq, oSome_eq, oNone_eq, eVo0, eC_eq, bind1, asI_eq, sx, asS_l]) i rfl)))).trans ?_
      simp only [bSeq_eq, sRet_eq, e2_eq, e1_eq, eSl_eq, oSome_eq, oNone_eq, eD_eq, aCons_eq, aNil_eq, eVos, eVo0', eC_eq, bind1, negP_eq, asI_eq, ct, la, eqP_ii, i1, addP_ii, ← hw, lstP1, ad, st_ok, then_ret, res_ret]
    · rcases List.mem_append.mp hc with hc | hc
      · obtain ⟨z, _, rfl⟩ := List.mem_map.mp hc
        exact Nat.lt_of_lt_of_le (cnum_bd pb) (Nat.pow_le_pow_right (by omega) (by omega))
      · rw [List.mem_singleton.mp hc, hw]
        have := cnum_bd (c := y) pb
        have e : (2 : Nat) ^ 300 = 2 ^ 250 * 2 ^ 50 := by rw [← Nat.pow_add]
        have := Int.natAbs_add_le (cnum p y) (if cnum p y = 0 then 1 else 0)
        have : (if cnum p y = 0 then (1 : Int) else 0).natAbs ≤ 1 := by split <;> decide
        omega
  · have h' : (c0 % 3 == 0) = false := by rw [beq_eq_false_iff_ne]; exact h
    have d3 := fdivP_sm (a := c0) (b := 3) (by omega) (by omega)
    have m4 := modP_pos (a := c0 / 3) (b := 4) (by omega)
    have d12 := fdivP_sm (a := c0) (b := 12) (by omega) (by omega)
    have m4' := modP_pos (a := c0 / 12) (b := 4) (by omega)
    have d48 := fdivP_sm (a := c0) (b := 48) (by omega) (by omega)
    have m5 := modP_pos (a := c0 / 48) (b := 5) (by omega)
    have pp := mulP_sm (a := p) (b := p) (by omega) (by omega) (by omega) (by omega)
    have ppb : (p * p).natAbs < 2 ^ 14 := mul_bound (m := 7) (n := 7) (by omega) (by omega)
    have l4 : lstP [.int 1, .int 1, .int 2, .int p] = .ok (.lst (([1, 1, 2, p] : List Int).map PV.int)) := lstP_ok (by simp only [List.length_cons, List.length_nil]; omega)
    obtain ⟨b, hb⟩ : ∃ b, b = nth [1, 1, 2, p] (c0 / 3 % 4) := ⟨_, rfl⟩
    have i4 : ixP (.lst (([1, 1, 2, p] : List Int).map PV.int)) (.int (c0 / 3 % 4)) = .ok (.int b) := by rw [hb]; exact ixP_ints (by omega) (by simp only [List.length_cons, List.length_nil]; omega)
    have bb : 1 ≤ b ∧ b ≤ 97 := by
      have m : b ∈ ([1, 1, 2, p] : List Int) := by rw [hb]; exact nth_mem (by omega) (by simp only [List.length_cons, List.length_nil]; omega)
      simp only [List.mem_cons, List.not_mem_nil, or_false] at m
      omega
    obtain ⟨fs, f1, f2, f3⟩ := f_factors hp r (by omega)
    obtain ⟨as, s5, s6, i, i1, i2, i3⟩ := facs_loop (p := p) X fs [b] 7 .un .un .un .un f3 ⟨b, rfl, by omega⟩ (fun c hc => by rw [List.mem_singleton.mp hc]; omega) (by rw [f2]; omega) (by rw [f2]; simp; omega)
    rw [List.length_singleton, f2] at i2
    rw [f2] at i3
    have i3' : ∀ c ∈ as, c.natAbs < 2 ^ 250 := fun c hc => Nat.lt_of_lt_of_le (i3 c hc) (Nat.pow_le_pow_right (by omega) (by omega))
    obtain ⟨a0, a1, at', rfl⟩ : ∃ a0 a1 at', as = a0 :: a1 :: at' := by
      match as, i2 with
      | [], i2 => rw [List.length_nil] at i2; omega
      | [_], i2 => rw [List.length_singleton] at i2; omega
      | a0 :: a1 :: t, _ => exact ⟨a0, a1, t, rfl⟩
    have start : ∀ {k : Rho → Out} {o : R PV}, (k [.val X, .val (.int p), .own ((a0 :: a1 :: at').map PV.int), .un, .un, s5, s6]).res = o → (bSeq (sSetO 2 (eD lstP (aCons (e2 ixP (eD lstP (aCons (eC (.int 1)) (aCons (eC (.int 1)) (aCons (eC (.int 2)) (aCons (eV 1) aNil))))) (e2 modP (e2 fdivP (e2 ixP (eVo 0) (eC (.int 0))) (eC (.int 3))) (eC (.int 4)))) aNil))) (bSeq (sFor (iS (eD F__law_factors (aCons (eSl slP (eVo 0) (oSome (eC (.int 1))) oNone) (aCons (eV 1) aNil)))) (gT (gsCons (gN 5) (gsCons (gN 6) gsNil))) (bSeq (sSetO 2 (eD (lendF true F__law_product) (aCons (eVo 2) (aCons (eD lstP (aCons (e2 subP (eC (.int 0)) (eVo 5)) (aCons (eV 6) aNil))) aNil)))) bNil)) k) [.val X, .val (.int p), .un, .un, .un, .un, .un]).res = o := fun {k o} hk => by
      refine stpN (ρ' := [.val X, .val (.int p), .own [.int b], .un, .un, .un, .un]) (by
        simp only [sSetO_eq, eD_eq, aCons_eq, aNil_eq, e2_eq, eVos, eVo0, eVs, eV0, eC_eq, bind1, l4, x0, d3, m4, i4, lstP1, st_ok, asL_l, own_ok, List.set_cons_succ, List.set_cons_zero]) ?_
      exact stpFor (fs.map facV) _ (by simp only [iS_eq, eD_eq, aCons_eq, aNil_eq, eSl_eq, oSome_eq, oNone_eq, eVo0, eC_eq, eVs, eV0, bind1, asI_eq, sx, f1, asS_l]) i hk
    obtain ⟨u, hu⟩ : ∃ u, u = c0 / 48 % 5 := ⟨_, rfl⟩
    rw [← hu] at m5
    have mu : mulP (.int (p * p)) (.int u) = .ok (.int (p * p * u)) := mulP_ii (okMul_of (n := 7) ppb (by omega) (by omega) (by omega) (by omega))
    have ub : (p * p * u).natAbs < 2 ^ (14 + 7) := mul_bound ppb (by omega)
    by_cases q : c0 / 12 % 4 = 1
    · have q' : (c0 / 12 % 4 == 1) = true := by rw [beq_iff_eq]; exact q
      have sp : setP ((a0 :: a1 :: at').map PV.int) (.int (a0 + p * p * u)) (.int 0) = .ok (((a0 + p * p * u) :: a1 :: at').map PV.int) := by
        rw [setP_ok (by omega) (by simp; omega)]; rfl
      refine ⟨(a0 + p * p * u) :: a1 :: at', go ?_, i1.tail.cons, by simp, by rw [List.length_cons] at i2 ⊢; omega, fun c hc => ?_⟩
      · unfold D__law_poly
        refine skp (by simp only [tB1_eq, e2_eq, eVo0, eC_eq, bind1, x0, m3, eqP_ii, h', asB_eq]) ?_
        refine start ?_
        refine stpN (ρ' := [.val X, .val (.int p), .own (((a0 + p * p * u) :: a1 :: at').map PV.int), .un, .un, s5, s6]) (by
          simp only [sIf_eq, tB1_eq, e2_eq, eVo0, eC_eq, bind1, x0, d12, m4', eqP_ii, q', asB_eq, stB_ok, if_true, bSeq_eq, sSetI_eq, getOwn0, getOwnS, onOwn_some, eVos, eVo0', List.map_cons, ixP_l0, pp, d48, m5, mu, addP_ii, st_ok]
          rw [List.map_cons, List.map_cons] at sp
          rw [sp]
          simp only [own_ok, then_next, bNil_eq, List.set_cons_succ, List.set_cons_zero, List.map_cons]) ?_
        simp only [bSeq_eq, sRetO_eq, getOwn0, getOwnS, onOwn_some, then_ret, res_ret]
      · rcases List.mem_cons.mp hc with hc | hc
        · rw [hc]
          have := i3' a0 List.mem_cons_self
          have := Int.natAbs_add_le a0 (p * p * u)
          have e : (2 : Nat) ^ 300 = 2 ^ 250 * 2 ^ 50 := by rw [← Nat.pow_add]
          have e2 : (2 : Nat) ^ (14 + 7) ≤ 2 ^ 250 := Nat.pow_le_pow_right (by omega) (by omega)
          omega
        · exact Nat.lt_of_lt_of_le (i3' c (List.mem_cons_of_mem _ hc)) (Nat.pow_le_pow_right (by omega) (by omega))
    · have q' : (c0 / 12 % 4 == 1) = false := by rw [beq_eq_false_iff_ne]; exact q
      refine ⟨a0 :: a1 :: at', go ?_, i1, by simp, by omega, fun c hc => Nat.lt_of_lt_of_le (i3' c hc) (Nat.pow_le_pow_right (by omega) (by omega))⟩
      unfold D__law_poly
      refine skp (by simp only [tB1_eq, e2_eq, eVo0, eC_eq, bind1, x0, m3, eqP_ii, h', asB_eq]) ?_
      refine start ?_
      refine skp (by simp only [tB1_eq, e2_eq, eVo0, eC_eq, bind1, x0, d12, m4', eqP_ii, q', asB_eq]) ?_
      simp only [bSeq_eq, sRetO_eq, getOwn0, getOwnS, onOwn_some, then_ret, res_ret]
theorem f_asked (ns : List Int) : ∃ (p : Int) (as : List Int) (d : Nat), F__law_asked [.frz (ns.map PV.int)] = .ok (.tup [.int p, .lst (as.map PV.int), .int d]) ∧ p ∈ primesL ∧ NzL as ∧ (2 ≤ as.length ∧ as.length ≤ 9) ∧ (∀ c ∈ as, c.natAbs < 2 ^ 300) ∧ 1 ≤ d ∧ d ≤ 12 := by
  obtain ⟨p, hp, fp⟩ := f_prime_l (nth ns 0)
  have pb := primesL_le p hp
  have c0 := f_cell ns 0 (by omega)
  have c1 := f_cell ns 1 (by omega)
  obtain ⟨a, ha⟩ : ∃ a, a = nth ns 0 := ⟨_, rfl⟩
  obtain ⟨b, hb⟩ : ∃ b, b = nth ns 1 := ⟨_, rfl⟩
  rw [← ha] at c0 fp
  rw [← hb] at c1
  have m4 := modP_pos (a := b) (b := 4) (by omega)
  have d4 := fdivP_sm (a := b) (b := 4) (by omega) (by omega)
  have m8 := modP_pos (a := b / 4) (b := 8) (by omega)
  have d32 := fdivP_sm (a := b) (b := 32) (by omega) (by omega)
  have m3 := modP_pos (a := b / 32) (b := 3) (by omega)
  obtain ⟨m, hm⟩ : ∃ m : Nat, (m : Int) = if (b / 4 % 8 == 5) = true then 6 + b / 32 % 3 else 2 + b % 4 := by
    split
    · exact ⟨(6 + b / 32 % 3).toNat, by omega⟩
    · exact ⟨(2 + b % 4).toNat, by omega⟩
  have mb : 2 ≤ m ∧ m ≤ 8 := by revert hm; split <;> (intro hm; omega)
  have d16 := fdivP_sm (a := a) (b := 1600) (by omega) (by omega)
  have d5 := fdivP_sm (a := a) (b := 5) (by omega) (by omega)
  have m16 := modP_pos (a := a / 5) (b := 16) (by omega)
  have d3200 := fdivP_sm (a := a) (b := 3200) (by omega) (by omega)
  have m8' := modP_pos (a := a / 3200) (b := 8) (by omega)
  obtain ⟨M, hM, hMi⟩ : ∃ M : Nat, (1 ≤ M ∧ M ≤ 5) ∧ (intP1 [.bl (decide (11 < p))]).bind (fun z => ixP (.lst [.int 5, .int 2]) z) = .ok (.int M) := by
    by_cases p4 : 11 < p
    · exact ⟨2, by omega, by rw [decide_eq_true p4]; rfl⟩
    · exact ⟨5, by omega, by rw [decide_eq_false p4]; rfl⟩
  have mM := modP_pos (a := a / 1600) (b := M) (by omega)
  obtain ⟨d0, hd0⟩ : ∃ d0 : Nat, a / 1600 % (M : Int) = d0 := ⟨(a / 1600 % (M : Int)).toNat, by have := Int.emod_nonneg (a / 1600) (show (M : Int) ≠ 0 by omega); omega⟩
  have d0b : d0 < 5 := by have := Int.emod_lt_of_pos (a / 1600) (show 0 < (M : Int) by omega); omega
  rw [hd0] at mM
  have rm : rng1 [.int (1 + (m : Int))] = .ok (rngL 0 (1 + m)) := by rw [rng1_sm (by omega) (by omega), show (1 + (m : Int)).toNat = 1 + m by omega]
  obtain ⟨Z, hZ⟩ : ∃ Z, Z = PV.frz (ns.map PV.int) := ⟨_, rfl⟩
  obtain ⟨L, l1, l2, _⟩ := lcGo_ints (tgt := gN 6) (elt := e2 fdivP (eD F__law_cell_at (aCons (eV 0) (aCons (e2 addP (eC (.int 1)) (eVo 6)) aNil))) (e2 ixP (eD lstP (aCons (eC (.int 6)) (aCons (eC (.int 1)) aNil))) (eD intP1 (aCons (e2 gtP (eVo 6) (eC (.int 0))) aNil)))) (ρ := [.val Z, .val (.int a), .val (.int p), .val (.int m), .un, .un, .un]) (fun _ => True) (rngL 0 (1 + m)) (fun q hq => by
    obtain ⟨j, hj, rfl⟩ := rngL_mem hq
    have c := f_cell ns (1 + (0 + (j : Int))) (by omega)
    rw [← hZ] at c
    have ix : (intP1 [.bl (decide (0 < 0 + (j : Int)))]).bind (fun z => ixP (.lst [.int 6, .int 1]) z) = .ok (.int (if j = 0 then 6 else 1)) := by
      by_cases z : j = 0
      · subst z; rfl
      · rw [decide_eq_true (by omega), if_neg z]; rfl
    have dv := fdivP_sm (a := nth ns (1 + (0 + (j : Int)))) (b := if j = 0 then 6 else 1) (by split <;> omega) (by split <;> omega)
    refine ⟨_, nth ns (1 + (0 + (j : Int))) / (if j = 0 then 6 else 1), rfl, ?_, trivial⟩
    simp only [List.set_cons_succ, List.set_cons_zero, e2_eq, eD_eq, aCons_eq, aNil_eq, eVs, eV0, eVos, eVo0, eC_eq, bind1, addP_ii, c, lstP2, gtP_ii, ix, dv])
  have LC := eLc_ok (vs := [6]) (it := iR rng1 (aCons (e2 addP (eC (.int 1)) (eVo 3)) aNil)) (ρ := [.val Z, .val (.int a), .val (.int p), .val (.int m), .un, .un, .un]) (items := rngL 0 (1 + m)) rfl (by simp only [iR_eq, aCons_eq, aNil_eq, e2_eq, eC_eq, eVos, eVo0, bind1, addP_ii, rm]) (by rw [rngL_len]; omega) l1
  rw [rngL_len] at l2
  obtain ⟨q0, r, rfl⟩ : ∃ q0 r, L = q0 :: r := by
    cases L with
    | nil => rw [List.length_nil] at l2; omega
    | cons q0 r => exact ⟨q0, r, rfl⟩
  rw [List.length_cons] at l2
  obtain ⟨as, f1, f2, f3, f4, f5⟩ := f_poly_l hp q0 r (by omega) (by omega)
  obtain ⟨w, hw⟩ : ∃ w : Bool, w = ((a / 5 % 16 == 9) || (decide (11 < p) && (a / 3200 % 8 == 5))) := ⟨_, rfl⟩
  refine ⟨p, as, if w = true then 12 else 1 + d0, ?_, hp, f2, ⟨f3, f4⟩, f5, by split <;> omega, by split <;> omega⟩
  rw [← hZ] at c0 c1 ⊢
  refine (runF_eq (n := 7) (u := D__law_asked)).trans ?_
  show (D__law_asked [.val Z, .un, .un, .un, .un, .un, .un]).res = _
  unfold D__law_asked
  refine stp (.int a) (by simp only [eD_eq, aCons_eq, aNil_eq, eV0, eC_eq, bind1, c0]) ?_
  simp only [List.set_cons_succ, List.set_cons_zero]
  refine stp (.int p) (by simp only [eD_eq, aCons_eq, aNil_eq, eVs, eV0, bind1, fp]) ?_
  simp only [List.set_cons_succ, List.set_cons_zero]
  refine stp (.int (2 + b % 4)) (by simp only [e2_eq, eD_eq, aCons_eq, aNil_eq, eV0, eC_eq, bind1, c1, m4, addP_ii]) ?_
  simp only [List.set_cons_succ, List.set_cons_zero]
  refine stpW (b / 4 % 8 == 5) (.int (6 + b / 32 % 3)) (.int (2 + b % 4)) (.int m) (by simp only [tB1_eq, e2_eq, eD_eq, aCons_eq, aNil_eq, eV0, eC_eq, bind1, c1, d4, m8, eqP_ii, asB_eq]) (fun _ => by simp only [e2_eq, eD_eq, aCons_eq, aNil_eq, eV0, eC_eq, bind1, c1, d32, m3, addP_ii]) rfl (by rw [hm]; split <;> rfl) ?_
  simp only [List.set_cons_succ, List.set_cons_zero]
  refine stp (.lst (as.map PV.int)) (by simp only [eD_eq, aCons_eq, aNil_eq, LC, eVs, eV0, bind1, f1]) ?_
  simp only [List.set_cons_succ, List.set_cons_zero]
  refine stp (.int (1 + d0)) (by simp only [e2_eq, eD_eq, aCons_eq, aNil_eq, eVos, eVo0, eC_eq, bind1, d16, lstP2, gtP_ii, hMi, mM, addP_ii]) ?_
  simp only [List.set_cons_succ, List.set_cons_zero]
  refine stpW w (.int 12) (.int (1 + d0)) (.int (if w = true then 12 else 1 + d0 : Nat)) (by
    rw [hw]
    refine tOr_v _ _ (by simp only [tB1_eq, e2_eq, eVos, eVo0, eC_eq, bind1, d5, m16, eqP_ii, asB_eq]) (tAn_v _ _ (by simp only [tB1_eq, e2_eq, eVos, eVo0, eC_eq, bind1, gtP_ii, asB_eq]) (by simp only [tB1_eq, e2_eq, eVos, eVo0, eC_eq, bind1, d3200, m8', eqP_ii, asB_eq]))) (fun _ => by rw [eC_eq]) rfl (by split <;> simp) ?_
  simp only [List.set_cons_succ, List.set_cons_zero]
  simp only [bSeq_eq, sRet_eq, eD_eq, aCons_eq, aNil_eq, eVs, eV0, bind1, tupP3, st_ok, then_ret, res_ret]
theorem pick {l : List PV} {P : PV → Prop} (k : Int) (h0 : 0 ≤ k) (hk : k < l.length) (h : ∀ q ∈ l, P q) : ∃ q, ixP (.lst l) (.int k) = .ok q ∧ P q := by
  obtain ⟨q, h1, h2⟩ := ixP_ex (ps := l) h0 hk
  exact ⟨q, h2, h q h1⟩
theorem no_int {n : Int} (h : n < 2 ∨ 97 < n) : isP (.int n) = false := by
  unfold isP
  refine decide_eq_false fun hm => ?_
  have := primesL_le n hm
  omega
theorem f_no_prime (c : Int) : ∃ q, F__law_no_prime [.int c] = .ok q ∧ isP q = false := by
  have d9 := fdivP_sm (a := c) (b := 9) (by omega) (by omega)
  have p30 : powP (.int 10) (.int 30) = .ok (.int 1000000000000000000000000000000) := by rw [powP_sm (by omega) (by omega) (by omega) (by omega)]; rfl
  have m30 := modP_pos (a := c / 9) (b := 1000000000000000000000000000000) (by omega)
  obtain ⟨far, hf⟩ : ∃ far, far = c / 9 % 1000000000000000000000000000000 := ⟨_, rfl⟩
  have f0 : 0 ≤ far := by omega
  rw [← hf] at m30
  have m9 := modP_pos (a := c) (b := 9) (by omega)
  obtain ⟨q, h1, h2⟩ := pick (l := [.int 1, .int (98 + far), .int 91, .int (-2 - far), .bl true, .non, .str "7", .tup [.int 7], .int 0]) (P := fun q => isP q = false) (c % 9) (by omega) (by simp only [List.length_cons, List.length_nil]; omega) (fa_cons (no_int (.inl (by omega))) (fa_cons (no_int (.inr (by omega))) (fa_cons (by decide) (fa_cons (no_int (.inl (by omega))) (fa_cons rfl (fa_cons rfl (fa_cons rfl (fa_cons rfl (fa_cons (no_int (.inl (by omega))) fa_nil)))))))))
  refine ⟨q, ?_, h2⟩
  have l9 : lstP [.int 1, .int (98 + far), .int 91, .int (-2 - far), .bl true, .non, .str "7", .tup [.int 7], .int 0] = .ok (.lst [.int 1, .int (98 + far), .int 91, .int (-2 - far), .bl true, .non, .str "7", .tup [.int 7], .int 0]) := lstP_ok (by simp only [List.length_cons, List.length_nil]; omega)
  refine (runF_eq (n := 2) (u := D__law_no_prime)).trans ?_
  show (D__law_no_prime [.val (.int c), .un]).res = _
  unfold D__law_no_prime
  refine stp (.int far) (by simp only [e2_eq, eVo0, eC_eq, bind1, d9, p30, m30]) ?_
  simp only [List.set_cons_succ, List.set_cons_zero]
  simp only [bSeq_eq, sRet_eq, e2_eq, e1_eq, eD_eq, aCons_eq, aNil_eq, eVos, eVo0, eC_eq, bind1, addP_ii, negP_eq, subP_ii, tupP1, l9, m9, h1, st_ok, then_ret, res_ret]
theorem poly_no (x : PV) (h : isL x = false) : F_is_poly [x] = .ok (.bl false) := by
  refine (runF_eq (n := 2) (u := D_is_poly)).trans ?_
  show (D_is_poly [.val x, .un]).res = _
  simp [D_is_poly, isi_list, h]
theorem polyL (l : List PV) (h : l.length < 2 ∨ 9 < l.length) : F_is_poly [.lst l] = .ok (.bl false) := by
  refine (runF_eq (n := 2) (u := D_is_poly)).trans ?_
  show (D_is_poly [.val (.lst l), .un]).res = _
  have ln : lenP [.lst l] = .ok (.int l.length) := by simp
  rcases h with h | h
  · have c : ((l.length : Int) < 2) := by omega
    simp [D_is_poly, isi_list, isL, ln, c]
  · have c : ¬ ((l.length : Int) < 2) := by omega
    have c2 : (9 : Int) < (l.length : Int) := by omega
    simp [D_is_poly, isi_list, isL, ln, c, c2]
theorem poly_bad (l : List PV) (h2 : 2 ≤ l.length) (h9 : l.length ≤ 9) (h : l.all isW = false) : F_is_poly [.lst l] = .ok (.bl false) := by
  refine (runF_eq (n := 2) (u := D_is_poly)).trans ?_
  show (D_is_poly [.val (.lst l), .un]).res = _
  have ln : lenP [.lst l] = .ok (.int l.length) := by simp
  have il : isiP "list" (.lst l) = .ok (.bl true) := by rw [isi_list]; rfl
  have go : lcGo (gN 1) cYes (eD F_is_whole (aCons (eV 1) aNil)) [.val (.lst l), .un] l = .ok (l.map fun q => PV.bl (isW q)) := by
    refine lcGo_map _ _ fun q hq => ⟨_, rfl, ?_⟩
    simp [f_is_whole]
  have L := eLc_ok (vs := [1]) (it := iS (eV 0)) (ρ := [.val (.lst l), .un]) (items := l) rfl (by simp) (by omega) go
  have al : allP [.lst (l.map fun q => PV.bl (isW q))] = .ok (.bl false) := by
    rw [show (l.map fun q => PV.bl (isW q)) = (l.map isW).map PV.bl by rw [List.map_map]; rfl, allP_bl, List.all_map]
    exact congrArg (fun b => R.ok (PV.bl b)) h
  have c1 : ¬ ((l.length : Int) < 2) := by omega
  have c2 : ¬ ((9 : Int) < (l.length : Int)) := by omega
  unfold D_is_poly
  refine skp (by simp only [tOr_eq, tNt_eq, tB1_eq, e1_eq, e2_eq, eD_eq, aCons_eq, aNil_eq, eC_eq, eVo0, bind1, il, ln, asB_eq, Bool.not_true, if_neg Bool.false_ne_true, ltP_ii, gtP_ii, decide_eq_false c1, gt_iff_lt, decide_eq_false c2]) ?_
  simp only [bSeq_eq, sRet_eq, eAn_eq, eD_eq, aCons_eq, aNil_eq, L, bind1, al, asB_eq, if_neg Bool.false_ne_true, st_ok, then_ret, res_ret]
theorem f_no_poly (c : Int) : ∃ q, F__law_no_poly [.int c] = .ok q ∧ F_is_poly [q] = .ok (.bl false) := by
  have d9 := fdivP_sm (a := c) (b := 9) (by omega) (by omega)
  have p30 : powP (.int 10) (.int 30) = .ok (.int 1000000000000000000000000000000) := by rw [powP_sm (by omega) (by omega) (by omega) (by omega)]; rfl
  have m30 := modP_pos (a := c / 9) (b := 1000000000000000000000000000000) (by omega)
  obtain ⟨far, hf⟩ : ∃ far, far = c / 9 % 1000000000000000000000000000000 := ⟨_, rfl⟩
  rw [← hf] at m30
  have m9 := modP_pos (a := c) (b := 9) (by omega)
  obtain ⟨T, hT⟩ : ∃ T, T = (List.replicate 10 [PV.int 1]).flatten := ⟨_, rfl⟩
  have Tl : T.length = 10 := by rw [hT]; rfl
  have rp : repL (.lst [.int 1]) (.int 10) = .ok (.lst T) := by rw [hT]; exact repL_ok (by omega) (by omega) (by decide)
  obtain ⟨q, h1, h2⟩ := pick (l := [.tup [.int far, .int 1], .non, .lst [.int (1 + far)], .lst [.int far, .int 0], .lst T, .lst [.int far, .bl true], .lst [.int far, .non, .int 1], .str "11", .int far]) (P := fun q => F_is_poly [q] = .ok (.bl false)) (c % 9) (by omega) (by simp only [List.length_cons, List.length_nil]; omega) (fa_cons (poly_no _ rfl) (fa_cons (poly_no _ rfl) (fa_cons (polyL _ (.inl (by simp))) (fa_cons (by
    have := f_is_poly_i [far, 0] (by simp) (by simp)
    simpa using this) (fa_cons (polyL _ (.inr (by omega))) (fa_cons (poly_bad _ (by simp) (by simp) (by rfl)) (fa_cons (poly_bad _ (by simp) (by simp) (by rfl)) (fa_cons (poly_no _ rfl) (fa_cons (poly_no _ rfl) fa_nil)))))))))
  refine ⟨q, ?_, h2⟩
  have l9 : lstP [.tup [.int far, .int 1], .non, .lst [.int (1 + far)], .lst [.int far, .int 0], .lst T, .lst [.int far, .bl true], .lst [.int far, .non, .int 1], .str "11", .int far] = .ok (.lst [.tup [.int far, .int 1], .non, .lst [.int (1 + far)], .lst [.int far, .int 0], .lst T, .lst [.int far, .bl true], .lst [.int far, .non, .int 1], .str "11", .int far]) := lstP_ok (by simp only [List.length_cons, List.length_nil]; omega)
  have ls : ∀ l : List PV, l.length ≤ 9 → lstP l = .ok (.lst l) := fun l h => lstP_ok (by omega)
  have l1 : ∀ x : PV, lstP [x] = .ok (.lst [x]) := fun _ => ls _ (by simp)
  have l2 : ∀ x y : PV, lstP [x, y] = .ok (.lst [x, y]) := fun _ _ => ls _ (by simp)
  have l3 : ∀ x y z : PV, lstP [x, y, z] = .ok (.lst [x, y, z]) := fun _ _ _ => ls _ (by simp)
  refine (runF_eq (n := 2) (u := D__law_no_poly)).trans ?_
  show (D__law_no_poly [.val (.int c), .un]).res = _
  unfold D__law_no_poly
  refine stp (.int far) (by simp only [e2_eq, eVo0, eC_eq, bind1, d9, p30, m30]) ?_
  simp only [List.set_cons_succ, List.set_cons_zero]
  simp only [bSeq_eq, sRet_eq, e2_eq, eD_eq, aCons_eq, aNil_eq, eVs, eV0, eVos, eVo0, eC_eq, bind1, addP_ii, tupP2, l1, l2, l3, rp, l9, m9, h1, st_ok, then_ret, res_ret]
theorem nl_int {lo hi n : Int} (h : n < lo ∨ hi < n) : NoLen lo hi (.int n) := .inr ⟨n, rfl, h⟩
theorem f_no_depth (c : Int) : ∃ q, F__law_no_depth [.int c] = .ok q ∧ NoLen 1 12 q := by
  have d7 := fdivP_sm (a := c) (b := 7) (by omega) (by omega)
  have p20 : powP (.int 10) (.int 20) = .ok (.int 100000000000000000000) := by rw [powP_sm (by omega) (by omega) (by omega) (by omega)]; rfl
  have m20 := modP_pos (a := c / 7) (b := 100000000000000000000) (by omega)
  obtain ⟨far, hf⟩ : ∃ far, far = c / 7 % 100000000000000000000 := ⟨_, rfl⟩
  have f0 : 0 ≤ far := by omega
  rw [← hf] at m20
  have m7 := modP_pos (a := c) (b := 7) (by omega)
  obtain ⟨q, h1, h2⟩ := pick (l := [.int 0, .int (13 + far), .int (-1 - far), .bl true, .non, .str "3", .lst [.int 2]]) (P := fun q => NoLen 1 12 q) (c % 7) (by omega) (by simp only [List.length_cons, List.length_nil]; omega) (fa_cons (nl_int (.inl (by omega))) (fa_cons (nl_int (.inr (by omega))) (fa_cons (nl_int (.inl (by omega))) (fa_cons (.inl rfl) (fa_cons (.inl rfl) (fa_cons (.inl rfl) (fa_cons (.inl rfl) fa_nil)))))))
  refine ⟨q, ?_, h2⟩
  have l7 : lstP [.int 0, .int (13 + far), .int (-1 - far), .bl true, .non, .str "3", .lst [.int 2]] = .ok (.lst [.int 0, .int (13 + far), .int (-1 - far), .bl true, .non, .str "3", .lst [.int 2]]) := lstP_ok (by simp only [List.length_cons, List.length_nil]; omega)
  have l1 : ∀ x : PV, lstP [x] = .ok (.lst [x]) := fun _ => lstP_ok (by simp only [List.length_cons, List.length_nil]; omega)
  refine (runF_eq (n := 1) (u := D__law_no_depth)).trans ?_
  show (D__law_no_depth [.val (.int c)]).res = _
  unfold D__law_no_depth
  simp only [bSeq_eq, sRet_eq, e2_eq, e1_eq, eD_eq, aCons_eq, aNil_eq, eVos, eVo0, eC_eq, bind1, d7, p20, m20, addP_ii, negP_eq, subP_ii, l1, l7, m7, h1, st_ok, then_ret, res_ret]
theorem f_no_end (c m : Int) (hm : 0 ≤ m) : ∃ q, F__law_no_end [.int c, .int m] = .ok q ∧ NoLen m 400 q := by
  have d7 := fdivP_sm (a := c) (b := 7) (by omega) (by omega)
  have p20 : powP (.int 10) (.int 20) = .ok (.int 100000000000000000000) := by rw [powP_sm (by omega) (by omega) (by omega) (by omega)]; rfl
  have m20 := modP_pos (a := c / 7) (b := 100000000000000000000) (by omega)
  obtain ⟨far, hf⟩ : ∃ far, far = c / 7 % 100000000000000000000 := ⟨_, rfl⟩
  have f0 : 0 ≤ far := by omega
  rw [← hf] at m20
  have m7 := modP_pos (a := c) (b := 7) (by omega)
  obtain ⟨q, h1, h2⟩ := pick (l := [.int (m - 1), .int (401 + far), .int (-1), .bl true, .non, .str "9", .tup [.int 9]]) (P := fun q => NoLen m 400 q) (c % 7) (by omega) (by simp only [List.length_cons, List.length_nil]; omega) (fa_cons (nl_int (.inl (by omega))) (fa_cons (nl_int (.inr (by omega))) (fa_cons (nl_int (.inl (by omega))) (fa_cons (.inl rfl) (fa_cons (.inl rfl) (fa_cons (.inl rfl) (fa_cons (.inl rfl) fa_nil)))))))
  refine ⟨q, ?_, h2⟩
  have l7 : lstP [.int (m - 1), .int (401 + far), .int (-1), .bl true, .non, .str "9", .tup [.int 9]] = .ok (.lst [.int (m - 1), .int (401 + far), .int (-1), .bl true, .non, .str "9", .tup [.int 9]]) := lstP_ok (by simp only [List.length_cons, List.length_nil]; omega)
  refine (runF_eq (n := 2) (u := D__law_no_end)).trans ?_
  show (D__law_no_end [.val (.int c), .val (.int m)]).res = _
  unfold D__law_no_end
  simp only [bSeq_eq, sRet_eq, e2_eq, e1_eq, eD_eq, aCons_eq, aNil_eq, eVos, eVo0, eC_eq, bind1, d7, p20, m20, addP_ii, negP_eq, subP_ii, tupP1, l7, m7, h1, st_ok, then_ret, res_ret]
theorem isW_of {l : List Int} : ∀ q ∈ l.map PV.int, isW q = false ∨ ∃ d : Int, q = .int d := fun q hq => by
  obtain ⟨d, _, rfl⟩ := List.mem_map.mp hq
  exact .inr ⟨d, rfl⟩
theorem stems_no {p : Int} {cs : List Int} {n : Nat} (hp : p ∈ primesL) (h : NzL cs) (h2 : 2 ≤ cs.length) (h9 : cs.length ≤ 9) (hb : ∀ c ∈ cs, c.natAbs < 2 ^ 300) (n1 : 1 ≤ n) (hn : n ≤ 12) {ds : List Int} (hd : (ds = [] ∧ ∀ r ∈ tree p cs n, r.word = wOpen) ∨ ∃ r ∈ tree p cs n, r.word ≠ wOpen ∧ ds = r.stem) :
    ∀ q ∈ [PV.tup [], .lst (ds.map PV.int), .tup ((ds ++ [p]).map PV.int), .tup ((-1 :: ds).map PV.int), .tup ((ds ++ [0]).map PV.int), .tup (.bl true :: (ds.drop 1).map PV.int), .tup ((List.replicate 13 (0 : Int)).map PV.int), .non], F_rise_of [.int p, .lst (cs.map PV.int), q] = .exc "NoRoot" := by
  have pb := primesL_le p hp
  have dl : ds.length ≤ 12 := by
    rcases hd with ⟨rfl, _⟩ | ⟨r, hr, _, rfl⟩
    · simp
    · obtain ⟨s, d, Ro⟩ := tree_row hr
      have := Ro.slen
      have := Ro.len
      omega
  have dig : ∀ l : List PV, (∀ q ∈ l, isW q = false ∨ ∃ d : Int, q = .int d) → l.all (gd p) = false → F_rise_of [.int p, .lst (cs.map PV.int), .tup l] = .exc "NoRoot" := fun l hq ha => f_rise_noS (by
    by_cases c : l.length ≤ 12
    · exact no_stem_dig c hq ha
    · exact no_stem_len (.inr (by omega)))
  refine fa_cons (f_rise_noS (no_stem_len (.inl (by simp)))) (fa_cons (f_rise_noS (no_stem rfl)) (fa_cons (dig _ isW_of ?_) (fa_cons (dig _ isW_of ?_) (fa_cons ?_ (fa_cons (dig _ (fun q hq => ?_) ?_) (fa_cons (f_rise_noS (no_stem_len (.inr (by simp)))) (fa_cons (f_rise_noS (no_stem rfl)) fa_nil)))))))
  · rw [List.all_eq_false]
    exact ⟨.int p, by simp, by simp [gd]⟩
  · rw [List.all_eq_false]
    exact ⟨.int (-1), by simp, by simp [gd]⟩
  · rcases hd with ⟨rfl, ho⟩ | ⟨r, hr, hw, rfl⟩
    · exact f_rise_last pb h h2 h9 hb Pth.nil (by simp) ⟨by omega, by omega⟩ (first_on (by omega) n1 ho)
    · obtain ⟨s, d, Ro⟩ := tree_row hr
      have sl := Ro.slen
      have ln := Ro.len
      have no : ¬ On p (see p cs s).2 d := by
        rcases row_wrd Ro with ⟨_, x, _⟩ | ⟨_, x, _⟩ | ⟨w, _⟩
        · exact x
        · exact x
        · exact absurd w hw
      by_cases c : s.length + 2 ≤ 12
      · rw [Ro.st]
        exact f_rise_way pb h h2 h9 hb Ro.pth c Ro.dig no ⟨by omega, by omega⟩
      · exact f_rise_noS (no_stem_len (.inr (by rw [List.length_map, List.length_append, List.length_singleton]; omega)))
  · rcases List.mem_cons.mp hq with rfl | hq
    · exact .inl rfl
    · exact isW_of q hq
  · rw [List.all_eq_false]
    exact ⟨.bl true, by simp, by simp [gd]⟩
theorem f_no_stem {p : Int} {cs : List Int} {n : Nat} (hp : p ∈ primesL) (h : NzL cs) (h2 : 2 ≤ cs.length) (h9 : cs.length ≤ 9) (hb : ∀ c ∈ cs, c.natAbs < 2 ^ 300) (n1 : 1 ≤ n) (hn : n ≤ 12) (c : Int) : ∃ q, F__law_no_stem [.int c, .lst ((tree p cs n).map rowV), .int p] = .ok q ∧ F_rise_of [.int p, .lst (cs.map PV.int), q] = .exc "NoRoot" := by
  have pb := primesL_le p hp
  have tf := tree_few hp h h9 hn
  obtain ⟨l, hl⟩ : ∃ l, l = tree p cs n := ⟨_, rfl⟩
  have sub : ∀ r ∈ l, r ∈ tree p cs n := fun r hr => by rw [← hl]; exact hr
  obtain ⟨C, hC⟩ : ∃ C, C = l.filter fun r => !(r.word == wOpen) := ⟨_, rfl⟩
  have d8 := fdivP_sm (a := c) (b := 8) (by omega) (by omega)
  have m8 := modP_pos (a := c) (b := 8) (by omega)
  have st : ∀ r : PM.Row, ixP (rowV r) (.int 0) = .ok (.tup (r.stem.map PV.int)) := rowV0
  obtain ⟨T, hT⟩ : ∃ T, T = PV.lst (l.map rowV) := ⟨_, rfl⟩
  have aT : asS T = .ok (l.map rowV) := by rw [hT]; rfl
  have go : lcGo (gN 6) (tB1 (e2 neP (e2 ixP (eVo 6) (eC (.int 1))) (eC (.str "open")))) (e2 ixP (eVo 6) (eC (.int 0))) [.val (.int c), .val T, .val (.int p), .val (.tup []), .un, .un, .un] (l.map rowV) = .ok (C.map fun r => PV.tup (r.stem.map PV.int)) := by
    rw [hC]
    refine lc_rowsF rowV _ (fun r => !(r.word == wOpen)) l fun r hr => ⟨[.val (.int c), .val T, .val (.int p), .val (.tup []), .un, .un, .val (rowV r)], rfl, ?_, fun _ => ?_⟩
    · obtain ⟨s, d, Ro⟩ := tree_row (sub r hr)
      have so : PyData.strOk r.word = true := by rcases row_word Ro with e | e | e <;> rw [e] <;> first | exact ok_none | exact ok_one | exact ok_open
      have q : neP (.str r.word) (.str "open") = .ok (.bl (!(r.word == wOpen))) := ne_ss so ok_open
      simp only [tB1_eq, e2_eq, eVos, eVo0, eC_eq, bind1, rowV1, q, asB_eq]
    · simp only [e2_eq, eVos, eVo0, eC_eq, bind1, rowV0]
  have L := eLc_ok (vs := [6]) (it := iS (eV 1)) (ρ := [.val (.int c), .val T, .val (.int p), .val (.tup []), .un, .un, .un]) (items := l.map rowV) rfl (by simp only [iS_eq, eVs, eV0, bind1, aT]) (by rw [List.length_map, hl]; omega) go
  obtain ⟨ds, hd, hds⟩ : ∃ ds : List Int, ((ds = [] ∧ ∀ r ∈ tree p cs n, r.word = wOpen) ∨ ∃ r ∈ tree p cs n, r.word ≠ wOpen ∧ ds = r.stem) ∧ (sIf (tB1 (e2 neP (eVo 4) (eD lstP aNil))) (bSeq (sSet 3 (e2 ixP (eVo 4) (e2 modP (e2 fdivP (eVo 0) (eC (.int 8))) (eD lenP (aCons (eVo 4) aNil))))) bNil) bNil) [.val (.int c), .val T, .val (.int p), .val (.tup []), .val (.lst (C.map fun r => PV.tup (r.stem.map PV.int))), .un, .un] = .next [.val (.int c), .val T, .val (.int p), .val (.tup (ds.map PV.int)), .val (.lst (C.map fun r => PV.tup (r.stem.map PV.int))), .un, .un] := by
    have okC : ∀ C : List PM.Row, okD 30 (.lst (C.map fun r => PV.tup (r.stem.map PV.int))) = true := fun C => by
      rw [okD_lst, List.all_map, List.all_eq_true]
      intro r _
      show okD 29 (.tup (r.stem.map PV.int)) = true
      rw [okD_tup]; simp
    cases hc : C with
    | nil =>
      refine ⟨[], .inl ⟨rfl, fun r hr => ?_⟩, ?_⟩
      · have : C.length = 0 := by rw [hc]; rfl
        rw [hC, List.length_eq_zero_iff, List.filter_eq_nil_iff] at this
        have := this r (by rw [hl]; exact hr)
        simpa using this
      · have ne : neP (.lst (([] : List PM.Row).map fun r => PV.tup (r.stem.map PV.int))) (.lst []) = .ok (.bl false) := neP_self (okC [])
        rw [sIf_eq, show tB1 (e2 neP (eVo 4) (eD lstP aNil)) [.val (.int c), .val T, .val (.int p), .val (.tup []), .val (.lst (([] : List PM.Row).map fun r => PV.tup (r.stem.map PV.int))), .un, .un] = .ok false by simp only [tB1_eq, e2_eq, eD_eq, aNil_eq, eVos, eVo0, bind1, lstP0, ne, asB_eq], stB_ok, if_neg Bool.false_ne_true, bNil_eq]
        rfl
    | cons r0 C' =>
      have ne : neP (.lst ((r0 :: C').map fun r => PV.tup (r.stem.map PV.int))) (.lst []) = .ok (.bl true) := by
        rw [neP_ok (okC _) (by rw [okD_lst]; rfl), List.map_cons, eqV_ll, eqVs_cn]; rfl
      have lC : lenP [.lst ((r0 :: C').map fun r => PV.tup (r.stem.map PV.int))] = .ok (.int ((r0 :: C').length : Nat)) := by simp
      have ml := modP_pos (a := c / 8) (b := (((r0 :: C').length : Nat) : Int)) (by rw [List.length_cons]; omega)
      obtain ⟨x, hx, ix⟩ := ixP_ex (ps := (r0 :: C').map fun r => PV.tup (r.stem.map PV.int)) (Int.emod_nonneg (c / 8) (show (((r0 :: C').length : Nat) : Int) ≠ 0 by rw [List.length_cons]; omega)) (by rw [List.length_map]; exact Int.emod_lt_of_pos _ (by rw [List.length_cons]; omega))
      obtain ⟨r, hr, rfl⟩ := List.mem_map.mp hx
      have hr' : r ∈ C := by rw [hc]; exact hr
      rw [hC] at hr'
      obtain ⟨h1, h3⟩ := List.mem_filter.mp hr'
      refine ⟨r.stem, .inr ⟨r, sub r h1, fun z => by rw [z] at h3; simp at h3, rfl⟩, ?_⟩
      rw [sIf_eq, show tB1 (e2 neP (eVo 4) (eD lstP aNil)) [.val (.int c), .val T, .val (.int p), .val (.tup []), .val (.lst ((r0 :: C').map fun r => PV.tup (r.stem.map PV.int))), .un, .un] = .ok true by simp only [tB1_eq, e2_eq, eD_eq, aNil_eq, eVos, eVo0, bind1, lstP0, ne, asB_eq], stB_ok, if_pos rfl]
      refine sqS (.tup (r.stem.map PV.int)) (by simp only [e2_eq, eD_eq, aCons_eq, aNil_eq, eVos, eVo0, eC_eq, bind1, d8, lC, ml, ix]) ?_
      rw [bNil_eq]; rfl
  have dl : ds.length ≤ 12 := by
    rcases hd with ⟨rfl, _⟩ | ⟨r, hr, _, rfl⟩
    · simp
    · obtain ⟨s, d, Ro⟩ := tree_row hr
      have := Ro.slen
      have := Ro.len
      omega
  obtain ⟨q, h1, h2'⟩ := pick (c % 8) (by omega) (by simp only [List.length_cons, List.length_nil]; omega) (stems_no hp h h2 h9 hb n1 hn hd)
  refine ⟨q, ?_, h2'⟩
  have ls : listP [.tup (ds.map PV.int)] = .ok (.lst (ds.map PV.int)) := rfl
  have a1 : addP (.tup (ds.map PV.int)) (.tup [.int p]) = .ok (.tup ((ds ++ [p]).map PV.int)) := by rw [addT_ok (by rw [List.length_map, List.length_singleton]; omega), List.map_append]; rfl
  have a2 : addP (.tup [.int (-1)]) (.tup (ds.map PV.int)) = .ok (.tup ((-1 :: ds).map PV.int)) := by rw [addT_ok (by rw [List.length_map, List.length_singleton]; omega)]; rfl
  have a3 : addP (.tup (ds.map PV.int)) (.tup [.int 0]) = .ok (.tup ((ds ++ [0]).map PV.int)) := by rw [addT_ok (by rw [List.length_map, List.length_singleton]; omega), List.map_append]; rfl
  have s1 : slP (.tup (ds.map PV.int)) (some 1) none = .ok (.tup ((ds.drop 1).map PV.int)) := by rw [slP_t, cut_drop _ _ (by omega), List.map_drop]; rfl
  have a4 : addP (.tup [.bl true]) (.tup ((ds.drop 1).map PV.int)) = .ok (.tup (.bl true :: (ds.drop 1).map PV.int)) := by rw [addT_ok (by rw [List.length_map, List.length_singleton, List.length_drop]; omega)]; rfl
  have r13 : repT (.tup [.int 0]) (.int 13) = .ok (.tup ((List.replicate 13 (0 : Int)).map PV.int)) := (repT_ok (by omega) (by omega) (by decide) (by simp)).trans rfl
  have l8 : ∀ a b c d e f g h : PV, lstP [a, b, c, d, e, f, g, h] = .ok (.lst [a, b, c, d, e, f, g, h]) := fun _ _ _ _ _ _ _ _ => lstP_ok (by simp only [List.length_cons, List.length_nil]; omega)
  rw [← hl, ← hT]
  refine (runF_eq (n := 7) (u := D__law_no_stem)).trans ?_
  show (D__law_no_stem [.val (.int c), .val T, .val (.int p), .un, .un, .un, .un]).res = _
  unfold D__law_no_stem
  refine stp (.tup []) (by simp only [eD_eq, aNil_eq, bind1, tupP0]) ?_
  simp only [List.set_cons_succ, List.set_cons_zero]
  refine stp (.lst (C.map fun r => PV.tup (r.stem.map PV.int))) (by exact L) ?_
  simp only [List.set_cons_succ, List.set_cons_zero]
  refine stpN hds ?_
  refine stp _ (by simp only [e2_eq, e1_eq, eSl_eq, oSome_eq, oNone_eq, eD_eq, aCons_eq, aNil_eq, eVs, eV0, eVos, eVo0, eC_eq, bind1, asI_eq, tupP0, tupP1, ls, a1, negP_eq, a2, a3, s1, a4, r13, l8]; rfl) ?_
  simp only [List.set_cons_succ, List.set_cons_zero]
  simp only [bSeq_eq, sRet_eq, e2_eq, eVos, eVo0, eC_eq, bind1, m8, h1, st_ok, then_ret, res_ret]
def dueL (n : Nat) : List PV := (List.range 7).map fun k => PV.bl (k == n)
theorem f_due (n : Nat) : F__law_due [.int n] = .ok (.lst (dueL n)) := by
  have rg : rng1 [.int 7] = .ok ((List.range 7).map fun i : Nat => PV.int (0 + i)) := rng1_sm (by omega) (by omega)
  have go : lcGo (gN 1) cYes (e2 eqP (eVo 1) (eVo 0)) [.val (.int n), .un] ((List.range 7).map fun i : Nat => PV.int (0 + i)) = .ok (dueL n) := by
    refine lc_rows (fun i : Nat => PV.int (0 + i)) (fun k => PV.bl (k == n)) (List.range 7) fun i _ => ⟨[.val (.int n), .val (.int (0 + i))], rfl, ?_⟩
    have : ((0 + (i : Int)) == (n : Int)) = (i == n) := by
      by_cases e : i = n
      · subst e; simp
      · have h1 : (i == n) = false := by rw [beq_eq_false_iff_ne]; exact e
        rw [h1, beq_eq_false_iff_ne]; omega
    simp only [e2_eq, eVos, eVo0, bind1, eqP_ii, this]
  have L := eLc_ok (vs := [1]) (it := iR rng1 (aCons (eC (.int 7)) aNil)) (ρ := [.val (.int n), .un]) rfl (by simp only [iR_eq, aCons_eq, aNil_eq, eC_eq, bind1, rg]) (by rw [List.length_map, List.length_range]; omega) go
  refine (runF_eq (n := 2) (u := D__law_due)).trans ?_
  show (D__law_due [.val (.int n), .un]).res = _
  unfold D__law_due
  simp only [bSeq_eq, sRet_eq, L, st_ok, then_ret, res_ret]
theorem due_ok (n : Nat) : okD 30 (.lst (dueL n)) = true := by
  unfold dueL
  rw [okD_lst, List.all_map, List.all_eq_true]
  intro k _
  rfl
theorem f_word_gen (w : Int) (x y z u : PV) (c : Str) (b0 b1 b2 b3 b4 : Bool) (h : w = 0 ∧ F_tree_of [x, y, z] = .exc c ∨ w = 1 ∧ F_root_of [x, y, z, u] = .exc c) (hc : c ∈ csL) (h0 : subX c "NoPrime" = b0) (h1 : subX c "NoPolynomial" = b1) (h2 : subX c "NoDepth" = b2) (h3 : subX c "NoRoot" = b3) (h4 : subX c "NoPlace" = b4) (h5 : List.any (["NoFigures", "NoFraction", "NoText", "Unlike", "NoQuotient"] : List Str) (subX c) = false) (h6 : List.any (["NoPower", "TooFew", "NoSize", "NotNear"] : List Str) (subX c) = false) (h7 : subX c "ValueError" = true) :
    F__law_word [.int w, x, y, z, u] = .ok (.lst [.bl b0, .bl b1, .bl b2, .bl b3, .bl b4, .bl false, .bl false]) := by
  refine (runF_eq (n := 8) (u := D__law_word)).trans ?_
  show (D__law_word [.val (.int w), .val x, .val y, .val z, .val u, .un, .un, .un]).res = _
  have l0 : lstP [] = .ok (.lst []) := lstP_ok (by simp)
  have l4 : ∀ a b c d : PV, lstP [a, b, c, d] = .ok (.lst [a, b, c, d]) := fun _ _ _ _ => lstP_ok (by simp only [List.length_cons, List.length_nil]; omega)
  have a4 : ∀ a b c d e : PV, appP [a, b, c, d] e = .ok [a, b, c, d, e] := fun _ _ _ _ _ => appP_ok (by simp)
  have a5 : ∀ a b c d e f : PV, appP [a, b, c, d, e] f = .ok [a, b, c, d, e, f] := fun _ _ _ _ _ _ => appP_ok (by simp)
  have a6 : ∀ a b c d e f g : PV, appP [a, b, c, d, e, f] g = .ok [a, b, c, d, e, f, g] := fun _ _ _ _ _ _ _ => appP_ok (by simp)
  unfold D__law_word
  refine stpN (ρ' := [.val (.int w), .val x, .val y, .val z, .val u, .own [], .un, .un]) (by simp [l0]) ?_
  refine stpN (ρ' := [.val (.int w), .val x, .val y, .val z, .val u, .own [.bl b0, .bl b1, .bl b2, .bl b3, .bl b4, .bl false, .bl false], .un, .val (.bl false)]) ?_ ?_
  · refine sTry_exc (c := c) (ρ' := [.val (.int w), .val x, .val y, .val z, .val u, .own [], .un, .un]) (by
      rcases h with ⟨rfl, h⟩ | ⟨rfl, h⟩ <;> simp [h]) hc fun a => ?_
    rw [h0, h1, h2, h3, h4, h5, h6, h7]
    simp only [List.set_cons_succ, List.set_cons_zero, bSeq_eq, sSetO_eq, eD_eq, aCons_eq, aNil_eq, isXs, isX0, e1_eq, notP_eq, bind1, l4, st_ok, asL_l, own_ok, then_next, sSet_eq, sMut_eq, getOwn0, getOwnS, onOwn_some, eOr_eq, eV0, eVs, asB_eq, if_neg Bool.false_ne_true, Bool.not_true, a4, a5, a6, bNil_eq]
    rfl
  · simp
theorem f_word {w : Int} {x y z u : PV} {c : Str} {n : Nat} (h : w = 0 ∧ F_tree_of [x, y, z] = .exc c ∨ w = 1 ∧ F_root_of [x, y, z, u] = .exc c) (hc : (c = "NoPrime" ∧ n = 0) ∨ (c = "NoPolynomial" ∧ n = 1) ∨ (c = "NoDepth" ∧ n = 2) ∨ (c = "NoRoot" ∧ n = 3) ∨ (c = "NoPlace" ∧ n = 4)) : F__law_word [.int w, x, y, z, u] = .ok (.lst (dueL n)) := by
  rcases hc with ⟨rfl, rfl⟩ | ⟨rfl, rfl⟩ | ⟨rfl, rfl⟩ | ⟨rfl, rfl⟩ | ⟨rfl, rfl⟩
  · exact (f_word_gen w x y z u "NoPrime" true false false false false h (by decide) (by decide +kernel) (by decide +kernel) (by decide +kernel) (by decide +kernel) (by decide +kernel) (by decide +kernel) (by decide +kernel) (by decide +kernel)).trans rfl
  · exact (f_word_gen w x y z u "NoPolynomial" false true false false false h (by decide) (by decide +kernel) (by decide +kernel) (by decide +kernel) (by decide +kernel) (by decide +kernel) (by decide +kernel) (by decide +kernel) (by decide +kernel)).trans rfl
  · exact (f_word_gen w x y z u "NoDepth" false false true false false h (by decide) (by decide +kernel) (by decide +kernel) (by decide +kernel) (by decide +kernel) (by decide +kernel) (by decide +kernel) (by decide +kernel) (by decide +kernel)).trans rfl
  · exact (f_word_gen w x y z u "NoRoot" false false false true false h (by decide) (by decide +kernel) (by decide +kernel) (by decide +kernel) (by decide +kernel) (by decide +kernel) (by decide +kernel) (by decide +kernel) (by decide +kernel)).trans rfl
  · exact (f_word_gen w x y z u "NoPlace" false false false false true h (by decide) (by decide +kernel) (by decide +kernel) (by decide +kernel) (by decide +kernel) (by decide +kernel) (by decide +kernel) (by decide +kernel) (by decide +kernel)).trans rfl
def put (b : Bool) (th : List PV) (j : Nat) (q : PV) : List PV := if b = true then th.set j q else th
theorem put_len (b : Bool) (th : List PV) (j : Nat) (q : PV) : (put b th j q).length = th.length := by unfold put; split <;> simp
theorem f_tree_refused {p : Int} {as : List Int} {d : Nat} (hp : p ∈ primesL) (h : NzL as) (h2 : 2 ≤ as.length) (h9 : as.length ≤ 9) (c : Int) : F__law_tree_refused [.int c, .int p, .lst (as.map PV.int), .int d] = .ok (.bl true) := by
  have d12 := fdivP_sm (a := c) (b := 12) (by omega) (by omega)
  obtain ⟨q0, f0, g0⟩ := f_no_prime (c / 12)
  obtain ⟨q1, f1, g1⟩ := f_no_poly (c / 12)
  obtain ⟨q2, f2, g2⟩ := f_no_depth (c / 12)
  have m3 := modP_pos (a := c) (b := 3) (by omega)
  have d3 := fdivP_sm (a := c) (b := 3) (by omega) (by omega)
  have m4 := modP_pos (a := c / 3) (b := 4) (by omega)
  obtain ⟨a, ha⟩ : ∃ a : Nat, c % 3 = a := ⟨(c % 3).toNat, by omega⟩
  have ab : a = 0 ∨ a = 1 ∨ a = 2 := by omega
  rw [ha] at m3
  obtain ⟨b, hb⟩ : ∃ b, b = (c / 3 % 4 == 1) := ⟨_, rfl⟩
  have ip : isP (.int p) = true := by simp [isP, hp]
  have iq := f_is_poly_ok (h.poly h2 h9)
  obtain ⟨A, hA⟩ : ∃ A, A = PV.lst (as.map PV.int) := ⟨_, rfl⟩
  rw [← hA] at iq ⊢
  have l3 : lstP [.int p, A, .int d] = .ok (.lst [.int p, A, .int d]) := lstP_ok (by simp only [List.length_cons, List.length_nil]; omega)
  obtain ⟨t, ht⟩ : ∃ t : Nat → Bool, t = fun (k : Nat) => ((k : Int) == (a : Int)) || (decide ((a : Int) < (k : Int)) && b) := ⟨_, rfl⟩
  have tst : ∀ (k : Nat) (th : List PV), tOr' (tB1 (e2 eqP (eVo 7) (eVo 4))) (tAn (tB1 (e2 gtP (eVo 7) (eVo 4))) (tB1 (eV 5))) [.val (.int c), .val (.int p), .val A, .val (.int d), .val (.int a), .val (.bl b), .own th, .val (.int k)] = .ok (t k) := fun k th => by
    rw [ht]
    exact tOr_v _ _ (by simp only [tB1_eq, e2_eq, eVos, eVo0, bind1, eqP_ii, asB_eq]) (tAn_v _ _ (by simp only [tB1_eq, e2_eq, eVos, eVo0, bind1, gtP_ii, asB_eq]) (by simp only [tB1_eq, eVs, eV0, bind1, asB_eq]))
  have step : ∀ (k : Nat) (q : PV) (th : List PV), k < 3 → th.length = 3 → pickL F__law_no_prime F__law_no_poly F__law_no_depth (eVo 7) (aCons (e2 fdivP (eVo 0) (eC (.int 12))) aNil) [.val (.int c), .val (.int p), .val A, .val (.int d), .val (.int a), .val (.bl b), .own th, .val (.int k)] = .ok q → bSeq (sIf (tOr' (tB1 (e2 eqP (eVo 7) (eVo 4))) (tAn (tB1 (e2 gtP (eVo 7) (eVo 4))) (tB1 (eV 5)))) (bSeq (sSetI 6 (pickL F__law_no_prime F__law_no_poly F__law_no_depth (eVo 7) (aCons (e2 fdivP (eVo 0) (eC (.int 12))) aNil)) (eV 7)) bNil) bNil) bNil [.val (.int c), .val (.int p), .val A, .val (.int d), .val (.int a), .val (.bl b), .own th, .val (.int k)] = .next [.val (.int c), .val (.int p), .val A, .val (.int d), .val (.int a), .val (.bl b), .own (put (t k) th k q), .val (.int k)] := fun k q th hk hl hq => by
    refine sqN ?_ (by rw [bNil_eq])
    rw [sIf_eq, tst k th, stB_ok]
    unfold put
    cases t k with
    | false => rw [if_neg Bool.false_ne_true, if_neg Bool.false_ne_true, bNil_eq]
    | true =>
      have sp : setP th q (.int k) = .ok (th.set k q) := by rw [setP_ok (by omega) (by omega), Int.toNat_natCast]
      rw [if_pos rfl, if_pos rfl]
      simp only [bSeq_eq, sSetI_eq, getOwn0, getOwnS, onOwn_some, hq, eVs, eV0, st_ok, sp, own_ok, List.set_cons_succ, List.set_cons_zero, then_next, bNil_eq]
  have pk0 : ∀ th : List PV, pickL F__law_no_prime F__law_no_poly F__law_no_depth (eVo 7) (aCons (e2 fdivP (eVo 0) (eC (.int 12))) aNil) [.val (.int c), .val (.int p), .val A, .val (.int d), .val (.int a), .val (.bl b), .own th, .val (.int (0 : Nat))] = .ok q0 := fun th => by
    show eD F__law_no_prime (aCons (e2 fdivP (eVo 0) (eC (.int 12))) aNil) [.val (.int c), .val (.int p), .val A, .val (.int d), .val (.int a), .val (.bl b), .own th, .val (.int (0 : Nat))] = _
    simp only [eD_eq, aCons_eq, aNil_eq, e2_eq, eVo0, eC_eq, bind1, d12, f0]
  have pk1 : ∀ th : List PV, pickL F__law_no_prime F__law_no_poly F__law_no_depth (eVo 7) (aCons (e2 fdivP (eVo 0) (eC (.int 12))) aNil) [.val (.int c), .val (.int p), .val A, .val (.int d), .val (.int a), .val (.bl b), .own th, .val (.int (1 : Nat))] = .ok q1 := fun th => by
    show eD F__law_no_poly (aCons (e2 fdivP (eVo 0) (eC (.int 12))) aNil) [.val (.int c), .val (.int p), .val A, .val (.int d), .val (.int a), .val (.bl b), .own th, .val (.int (1 : Nat))] = _
    simp only [eD_eq, aCons_eq, aNil_eq, e2_eq, eVo0, eC_eq, bind1, d12, f1]
  have pk2 : ∀ th : List PV, pickL F__law_no_prime F__law_no_poly F__law_no_depth (eVo 7) (aCons (e2 fdivP (eVo 0) (eC (.int 12))) aNil) [.val (.int c), .val (.int p), .val A, .val (.int d), .val (.int a), .val (.bl b), .own th, .val (.int (2 : Nat))] = .ok q2 := fun th => by
    show eD F__law_no_depth (aCons (e2 fdivP (eVo 0) (eC (.int 12))) aNil) [.val (.int c), .val (.int p), .val A, .val (.int d), .val (.int a), .val (.bl b), .own th, .val (.int (2 : Nat))] = _
    simp only [eD_eq, aCons_eq, aNil_eq, e2_eq, eVo0, eC_eq, bind1, d12, f2]
  obtain ⟨L0, hL0⟩ : ∃ L0, L0 = put (t 0) [.int p, A, .int d] 0 q0 := ⟨_, rfl⟩
  obtain ⟨L1, hL1⟩ : ∃ L1, L1 = put (t 1) L0 1 q1 := ⟨_, rfl⟩
  obtain ⟨L2, hL2⟩ : ∃ L2, L2 = put (t 2) L1 2 q2 := ⟨_, rfl⟩
  have n0 : L0.length = 3 := by rw [hL0, put_len]; rfl
  have n1 : L1.length = 3 := by rw [hL1, put_len]; exact n0
  obtain ⟨x0, x1, x2, hx, hw⟩ : ∃ x0 x1 x2 : PV, L2 = [x0, x1, x2] ∧ F__law_word [.int 0, x0, x1, x2, .int 0] = .ok (.lst (dueL a)) := by
    rcases ab with rfl | rfl | rfl
    · have t0 : t 0 = true := by rw [ht]; rfl
      obtain ⟨y1, e1⟩ : ∃ y1, L1 = [q0, y1, .int d] := by
        rw [hL1, hL0, t0]
        unfold put
        cases t 1
        · exact ⟨_, rfl⟩
        · exact ⟨_, rfl⟩
      obtain ⟨y2, e2⟩ : ∃ y2, L2 = [q0, y1, y2] := by
        rw [hL2, e1]
        unfold put
        cases t 2
        · exact ⟨_, rfl⟩
        · exact ⟨_, rfl⟩
      exact ⟨_, _, _, e2, f_word (.inl ⟨rfl, f_tree_noP g0⟩) (.inl ⟨rfl, rfl⟩)⟩
    · have t0 : t 0 = false := by rw [ht]; rfl
      have t1 : t 1 = true := by rw [ht]; rfl
      obtain ⟨y2, e2⟩ : ∃ y2, L2 = [.int p, q1, y2] := by
        rw [hL2, hL1, hL0, t0, t1]
        unfold put
        cases t 2
        · exact ⟨_, rfl⟩
        · exact ⟨_, rfl⟩
      exact ⟨_, _, _, e2, f_word (.inl ⟨rfl, f_tree_noQ ip g1⟩) (.inr (.inl ⟨rfl, rfl⟩))⟩
    · have t0 : t 0 = false := by rw [ht]; rfl
      have t1 : t 1 = false := by rw [ht]; rfl
      have t2 : t 2 = true := by rw [ht]; rfl
      exact ⟨.int p, A, q2, by rw [hL2, hL1, hL0, t0, t1, t2]; rfl, f_word (.inl ⟨rfl, f_tree_noD ip iq g2⟩) (.inr (.inr (.inl ⟨rfl, rfl⟩)))⟩
  have rg : rng1 [.int 3] = .ok [.int ((0 : Nat) : Int), .int ((1 : Nat) : Int), .int ((2 : Nat) : Int)] := by rw [rng1_sm (by omega) (by omega)]; rfl
  have fd := f_due a
  have ee := eqP_self (due_ok a)
  refine (runF_eq (n := 8) (u := D__law_tree_refused)).trans ?_
  show (D__law_tree_refused [.val (.int c), .val (.int p), .val A, .val (.int d), .un, .un, .un, .un]).res = _
  unfold D__law_tree_refused
  refine stp (.int a) (by simp only [e2_eq, eVo0, eC_eq, bind1, m3]) ?_
  simp only [List.set_cons_succ, List.set_cons_zero]
  refine stp (.bl b) (by simp only [e2_eq, eVo0, eC_eq, bind1, d3, m4, eqP_ii, hb]) ?_
  simp only [List.set_cons_succ, List.set_cons_zero]
  refine stpN (ρ' := [.val (.int c), .val (.int p), .val A, .val (.int d), .val (.int a), .val (.bl b), .own [.int p, A, .int d], .un]) (by
    simp only [sSetO_eq, eD_eq, aCons_eq, aNil_eq, eVs, eV0, bind1, l3, st_ok, asL_l, own_ok, List.set_cons_succ, List.set_cons_zero]) ?_
  refine stpFor [.int ((0 : Nat) : Int), .int ((1 : Nat) : Int), .int ((2 : Nat) : Int)] [.val (.int c), .val (.int p), .val A, .val (.int d), .val (.int a), .val (.bl b), .own L2, .val (.int ((2 : Nat) : Int))] (by simp only [iR_eq, aCons_eq, aNil_eq, eC_eq, bind1, rg]) (by
    rw [forL_cons, gN_eq, onR_some]
    simp only [List.set_cons_succ, List.set_cons_zero]
    rw [step 0 q0 _ (by omega) rfl (pk0 _), fo_next, ← hL0, forL_cons, gN_eq, onR_some]
    simp only [List.set_cons_succ, List.set_cons_zero]
    rw [step 1 q1 _ (by omega) n0 (pk1 _), fo_next, ← hL1, forL_cons, gN_eq, onR_some]
    simp only [List.set_cons_succ, List.set_cons_zero]
    rw [step 2 q2 _ (by omega) n1 (pk2 _), fo_next, ← hL2, forL_nil]) ?_
  rw [hx]
  simp only [bSeq_eq, sRet_eq, e2_eq, eD_eq, aCons_eq, aNil_eq, eVs, eV0, eVos, eVo0, eVo0', eC_eq, bind1, ixP_l0, ixP_l1, ixP_l2, hw, fd, ee, st_ok, then_ret, res_ret]
theorem ixP_l3 {a b c d : PV} : ixP (.lst [a, b, c, d]) (.int 3) = .ok d := ixP_lst (by omega) rfl
theorem f_root_refused {p : Int} {as : List Int} {n : Nat} (hp : p ∈ primesL) (h : NzL as) (h2 : 2 ≤ as.length) (h9 : as.length ≤ 9) (hbd : ∀ c ∈ as, c.natAbs < 2 ^ 300) (n1 : 1 ≤ n) (hn : n ≤ 12) (c : Int) : F__law_root_refused [.int c, .int p, .lst (as.map PV.int), .lst ((tree p as n).map rowV), .lst (((tree p as n).filter fun r => r.word == wOne).map rowV)] = .ok (.bl true) := by
  have pb := primesL_le p hp
  obtain ⟨Go, hGo⟩ : ∃ Go, Go = (tree p as n).filter fun r => r.word == wOne := ⟨_, rfl⟩
  have gm : ∀ r ∈ Go, r ∈ tree p as n ∧ r.word = wOne := fun r hr => by
    rw [hGo] at hr
    obtain ⟨h1, h2⟩ := List.mem_filter.mp hr
    exact ⟨h1, eq_of_beq h2⟩
  rw [← hGo]
  have d16 := fdivP_sm (a := c) (b := 16) (by omega) (by omega)
  obtain ⟨q0, f0, g0⟩ := f_no_prime (c / 16)
  obtain ⟨q1, f1, g1⟩ := f_no_poly (c / 16)
  obtain ⟨q2, f2, g2⟩ := f_no_stem hp h h2 h9 hbd n1 hn (c / 16)
  have m4 := modP_pos (a := c) (b := 4) (by omega)
  have d4 := fdivP_sm (a := c) (b := 4) (by omega) (by omega)
  have m4' := modP_pos (a := c / 4) (b := 4) (by omega)
  have m9 := modP_pos (a := c / 16) (b := 9) (by omega)
  obtain ⟨a0, ha0⟩ : ∃ a : Nat, c % 4 = a := ⟨(c % 4).toNat, by omega⟩
  rw [ha0] at m4
  obtain ⟨b, hb⟩ : ∃ b, b = (c / 4 % 4 == 1) := ⟨_, rfl⟩
  have ip : isP (.int p) = true := by simp [isP, hp]
  have iq := f_is_poly_ok (h.poly h2 h9)
  obtain ⟨T, hT⟩ : ∃ T, T = PV.lst ((tree p as n).map rowV) := ⟨_, rfl⟩
  obtain ⟨TG, hTG⟩ : ∃ TG, TG = PV.lst (Go.map rowV) := ⟨_, rfl⟩
  have okG : okD 30 (.lst (Go.map rowV)) = true := ok_rows fun r hr => by obtain ⟨s, e, Ro⟩ := tree_row (gm r hr).1; exact row_word Ro
  -- the good list, empty or not
  obtain ⟨e, he⟩ : ∃ e, e = Go.isEmpty := ⟨_, rfl⟩
  have eG : eqP TG (.lst []) = .ok (.bl e) ∧ neP TG (.lst []) = .ok (.bl (!e)) := by
    rw [hTG, he]
    cases hg : Go with
    | nil => exact ⟨eqP_self (by rw [List.map_nil, okD_lst]; rfl), neP_self (by rw [List.map_nil, okD_lst]; rfl)⟩
    | cons r G =>
      rw [hg] at okG
      exact ⟨by rw [eqP_ok okG (by rw [okD_lst]; rfl), List.map_cons, eqV_ll, eqVs_cn]; rfl, by rw [neP_ok okG (by rw [okD_lst]; rfl), List.map_cons, eqV_ll, eqVs_cn]; rfl⟩
  obtain ⟨eG1, eG2⟩ := eG
  obtain ⟨a, ha⟩ : ∃ a : Nat, a = if ((((a0 : Int) == 3) && e)) = true then 2 else a0 := ⟨_, rfl⟩
  have ab : a = 0 ∨ a = 1 ∨ a = 2 ∨ (a = 3 ∧ e = false) := by
    have : a0 < 4 := by omega
    rw [ha]
    cases e with
    | false => simp; omega
    | true =>
      by_cases q : a0 = 3
      · subst q; simp
      · have : ((a0 : Int) == 3) = false := by rw [beq_eq_false_iff_ne]; omega
        rw [this]; simp; omega
  obtain ⟨A, hA⟩ : ∃ A, A = PV.lst (as.map PV.int) := ⟨_, rfl⟩
  -- the stem
  obtain ⟨ds, dl, hds, hst⟩ : ∃ ds : List Int, ds.length ≤ 12 ∧ (e = false → ∃ r ∈ Go, ds = r.stem) ∧ ∀ t : List Slot, (sIf (tB1 (e2 neP (eVo 4) (eD lstP aNil))) (bSeq (sSet 7 (e2 ixP (e2 ixP (eVo 4) (e2 modP (e2 fdivP (eVo 0) (eC (.int 16))) (eD lenP (aCons (eVo 4) aNil)))) (eC (.int 0)))) bNil) bNil) [.val (.int c), .val (.int p), .val A, .val T, .val TG, .val (.int a), .val (.bl b), .val (.tup []), .un] = .next [.val (.int c), .val (.int p), .val A, .val T, .val TG, .val (.int a), .val (.bl b), .val (.tup (ds.map PV.int)), .un] := by
    have tst : tB1 (e2 neP (eVo 4) (eD lstP aNil)) [.val (.int c), .val (.int p), .val A, .val T, .val TG, .val (.int a), .val (.bl b), .val (.tup []), .un] = .ok (!e) := by simp only [tB1_eq, e2_eq, eD_eq, aNil_eq, eVos, eVo0, bind1, lstP0, eG2, asB_eq]
    cases e with
    | true =>
      refine ⟨[], by simp, fun z => (nomatch z), fun _ => ?_⟩
      rw [sIf_eq, tst, stB_ok, Bool.not_true, if_neg Bool.false_ne_true, bNil_eq]; rfl
    | false =>
      have l1 : 1 ≤ Go.length := by
        cases hg : Go with
        | nil => rw [hg] at he; cases he
        | cons _ _ => simp
      have lG : lenP [TG] = .ok (.int Go.length) := by rw [hTG]; simp
      have ml := modP_pos (a := c / 16) (b := (Go.length : Int)) (by omega)
      obtain ⟨x, hx, ix⟩ := ixP_ex (ps := Go.map rowV) (Int.emod_nonneg (c / 16) (show (Go.length : Int) ≠ 0 by omega)) (by rw [List.length_map]; exact Int.emod_lt_of_pos _ (by omega))
      rw [← hTG] at ix
      obtain ⟨r, hr, rfl⟩ := List.mem_map.mp hx
      obtain ⟨s, d, Ro⟩ := tree_row (gm r hr).1
      have := Ro.slen
      have := Ro.len
      have r0 := rowV0 r
      refine ⟨r.stem, by omega, fun _ => ⟨r, hr, rfl⟩, fun _ => ?_⟩
      rw [sIf_eq, tst, stB_ok, Bool.not_false, if_pos rfl]
      refine sqS (.tup (r.stem.map PV.int)) (by simp only [e2_eq, eD_eq, aCons_eq, aNil_eq, eVos, eVo0, eC_eq, bind1, d16, lG, ml, ix, r0]) ?_
      rw [bNil_eq]; rfl
  have hst := hst []
  obtain ⟨q3, f3, g3⟩ := f_no_end (c / 16) ds.length (by omega)
  have sn := stemL ds
  obtain ⟨S, hS⟩ : ∃ S, S = PV.tup (ds.map PV.int) := ⟨_, rfl⟩
  rw [← hS] at hst sn
  obtain ⟨E, hE⟩ : ∃ E : Int, E = (ds.length : Int) + c / 16 % 9 := ⟨_, rfl⟩
  have l4 : lstP [.int p, A, S, .int E] = .ok (.lst [.int p, A, S, .int E]) := lstP_ok (by simp only [List.length_cons, List.length_nil]; omega)
  obtain ⟨t0, ht0⟩ : ∃ t0, t0 = ((a : Int) == 0) := ⟨_, rfl⟩
  obtain ⟨t1, ht1⟩ : ∃ t1, t1 = (((a : Int) == 1) || (b && decide ((a : Int) < 1))) := ⟨_, rfl⟩
  obtain ⟨t2, ht2⟩ : ∃ t2, t2 = (((a : Int) == 2) || (b && decide ((a : Int) < 2))) := ⟨_, rfl⟩
  obtain ⟨t3, ht3⟩ : ∃ t3, t3 = (((a : Int) == 3) || (b && decide ((a : Int) < 3))) := ⟨_, rfl⟩
  obtain ⟨L0, hL0⟩ : ∃ L0, L0 = put t0 [.int p, A, S, .int E] 0 q0 := ⟨_, rfl⟩
  obtain ⟨L1, hL1⟩ : ∃ L1, L1 = put t1 L0 1 q1 := ⟨_, rfl⟩
  obtain ⟨L2, hL2⟩ : ∃ L2, L2 = put t2 L1 2 q2 := ⟨_, rfl⟩
  obtain ⟨L3, hL3⟩ : ∃ L3, L3 = put t3 L2 3 q3 := ⟨_, rfl⟩
  have n0 : L0.length = 4 := by rw [hL0, put_len]; rfl
  have n1' : L1.length = 4 := by rw [hL1, put_len]; exact n0
  have n2' : L2.length = 4 := by rw [hL2, put_len]; exact n1'
  obtain ⟨m, hm, hmi⟩ : ∃ m : Nat, m = (if a = 0 then 0 else if a = 1 then 1 else if a = 2 then 3 else 4) ∧ ixP (.lst [.int 0, .int 1, .int 3, .int 4]) (.int a) = .ok (.int m) := by
    rcases ab with rfl | rfl | rfl | ⟨rfl, _⟩
    · exact ⟨0, rfl, rfl⟩
    · exact ⟨1, rfl, rfl⟩
    · exact ⟨3, rfl, rfl⟩
    · exact ⟨4, rfl, rfl⟩
  have sh : ∀ (b : Bool) (w x y z q : PV), (put b [w, x, y, z] 1 q = [w, q, y, z] ∨ put b [w, x, y, z] 1 q = [w, x, y, z]) ∧ (put b [w, x, y, z] 2 q = [w, x, q, z] ∨ put b [w, x, y, z] 2 q = [w, x, y, z]) ∧ (put b [w, x, y, z] 3 q = [w, x, y, q] ∨ put b [w, x, y, z] 3 q = [w, x, y, z]) := fun b w x y z q => by
    unfold put
    cases b
    · exact ⟨.inr rfl, .inr rfl, .inr rfl⟩
    · exact ⟨.inl rfl, .inl rfl, .inl rfl⟩
  have any1 : ∀ (b : Bool) (w x y z q : PV), ∃ x', put b [w, x, y, z] 1 q = [w, x', y, z] := fun b w x y z q => by rcases (sh b w x y z q).1 with e | e <;> exact ⟨_, e⟩
  have any2 : ∀ (b : Bool) (w x y z q : PV), ∃ x', put b [w, x, y, z] 2 q = [w, x, x', z] := fun b w x y z q => by rcases (sh b w x y z q).2.1 with e | e <;> exact ⟨_, e⟩
  have any3 : ∀ (b : Bool) (w x y z q : PV), ∃ x', put b [w, x, y, z] 3 q = [w, x, y, x'] := fun b w x y z q => by rcases (sh b w x y z q).2.2 with e | e <;> exact ⟨_, e⟩
  rw [← hA] at iq g2 ⊢
  rw [← hT] at f2
  rw [← hT, ← hTG]
  obtain ⟨x0, x1, x2, x3, hx, hw⟩ : ∃ x0 x1 x2 x3 : PV, L3 = [x0, x1, x2, x3] ∧ F__law_word [.int 1, x0, x1, x2, x3] = .ok (.lst (dueL m)) := by
    rcases ab with z | z | z | ⟨z, ee⟩
    · have u0 : t0 = true := by rw [ht0, z]; rfl
      have e0 : L0 = [q0, A, S, .int E] := by rw [hL0, u0]; rfl
      obtain ⟨y1, e1⟩ := any1 t1 q0 A S (.int E) q1
      obtain ⟨y2, e2⟩ := any2 t2 q0 y1 S (.int E) q2
      obtain ⟨y3, e3⟩ := any3 t3 q0 y1 y2 (.int E) q3
      refine ⟨_, _, _, _, by rw [hL3, hL2, hL1, e0, e1, e2, e3], f_word (.inr ⟨rfl, f_root_noP g0⟩) (.inl ⟨rfl, by rw [hm, if_pos z]⟩)⟩
    · have u0 : t0 = false := by rw [ht0, z]; rfl
      have u1 : t1 = true := by rw [ht1, z]; rfl
      have e1 : L1 = [.int p, q1, S, .int E] := by rw [hL1, hL0, u0, u1]; rfl
      obtain ⟨y2, e2⟩ := any2 t2 (.int p) q1 S (.int E) q2
      obtain ⟨y3, e3⟩ := any3 t3 (.int p) q1 y2 (.int E) q3
      refine ⟨_, _, _, _, by rw [hL3, hL2, e1, e2, e3], f_word (.inr ⟨rfl, f_root_noQ ip g1⟩) (.inr (.inl ⟨rfl, by rw [hm, z]; rfl⟩))⟩
    · have u0 : t0 = false := by rw [ht0, z]; rfl
      have u1 : t1 = false := by rw [ht1, z]; cases b <;> rfl
      have u2 : t2 = true := by rw [ht2, z]; rfl
      have e2 : L2 = [.int p, A, q2, .int E] := by rw [hL2, hL1, hL0, u0, u1, u2]; rfl
      obtain ⟨y3, e3⟩ := any3 t3 (.int p) A q2 (.int E) q3
      refine ⟨_, _, _, _, by rw [hL3, e2, e3], f_word (.inr ⟨rfl, f_root_noR ip iq g2⟩) (.inr (.inr (.inr (.inl ⟨rfl, by rw [hm, z]; rfl⟩))))⟩
    · have u0 : t0 = false := by rw [ht0, z]; rfl
      have u1 : t1 = false := by rw [ht1, z]; cases b <;> rfl
      have u2 : t2 = false := by rw [ht2, z]; cases b <;> rfl
      have u3 : t3 = true := by rw [ht3, z]; rfl
      obtain ⟨r, hr, er⟩ := hds ee
      obtain ⟨s, d, Ro⟩ := tree_row (gm r hr).1
      have ri := f_rise_of pb h h2 h9 hbd hn Ro (gm r hr).2
      rw [← er, ← hS, ← hA] at ri
      refine ⟨_, _, _, _, by rw [hL3, hL2, hL1, hL0, u0, u1, u2, u3]; rfl, f_word (.inr ⟨rfl, f_root_noE ip iq ri sn g3⟩) (.inr (.inr (.inr (.inr ⟨rfl, by rw [hm, z]; rfl⟩))))⟩
  have l4' : lstP [.int 0, .int 1, .int 3, .int 4] = .ok (.lst [.int 0, .int 1, .int 3, .int 4]) := rfl
  have fd := f_due m
  have ee := eqP_self (due_ok m)
  have cset : ∀ {t : Rho → R Bool} {f g : Rho → R PV} {k : Rho → Out} {r : R PV} (bb : Bool) (j : Nat) (th : List PV) (q : PV), th.length = 4 → j < 4 → t [.val (.int c), .val (.int p), .val A, .val T, .val TG, .val (.int a), .val (.bl b), .val S, .own th] = .ok bb → f [.val (.int c), .val (.int p), .val A, .val T, .val TG, .val (.int a), .val (.bl b), .val S, .own th] = .ok q → g [.val (.int c), .val (.int p), .val A, .val T, .val TG, .val (.int a), .val (.bl b), .val S, .own th] = .ok (.int j) → (k [.val (.int c), .val (.int p), .val A, .val T, .val TG, .val (.int a), .val (.bl b), .val S, .own (put bb th j q)]).res = r → (bSeq (sIf t (bSeq (sSetI 8 f g) bNil) bNil) k [.val (.int c), .val (.int p), .val A, .val T, .val TG, .val (.int a), .val (.bl b), .val S, .own th]).res = r := fun {t f g k r} bb j th q hl hj h1 h2 h3 hk => by
    refine stpN ?_ hk
    rw [sIf_eq, h1, stB_ok]
    unfold put
    cases bb with
    | false => rw [if_neg Bool.false_ne_true, if_neg Bool.false_ne_true, bNil_eq]
    | true =>
      have sp : setP th q (.int j) = .ok (th.set j q) := by rw [setP_ok (by omega) (by omega), Int.toNat_natCast]
      rw [if_pos rfl, if_pos rfl]
      simp only [bSeq_eq, sSetI_eq, getOwn0, getOwnS, onOwn_some, h2, h3, st_ok, sp, own_ok, List.set_cons_succ, List.set_cons_zero, then_next, bNil_eq]
  refine (runF_eq (n := 9) (u := D__law_root_refused)).trans ?_
  show (D__law_root_refused [.val (.int c), .val (.int p), .val A, .val T, .val TG, .un, .un, .un, .un]).res = _
  unfold D__law_root_refused
  refine stp (.int a0) (by simp only [e2_eq, eVo0, eC_eq, bind1, m4]) ?_
  simp only [List.set_cons_succ, List.set_cons_zero]
  refine stp (.bl b) (by simp only [e2_eq, eVo0, eC_eq, bind1, d4, m4', eqP_ii, hb]) ?_
  simp only [List.set_cons_succ, List.set_cons_zero]
  refine stpW (i := 5) (((a0 : Int) == 3) && e) (.int 2) (.int a0) (.int a) (tAn_v _ _ (by simp only [tB1_eq, e2_eq, eVos, eVo0, eC_eq, bind1, eqP_ii, asB_eq]) (by simp only [tB1_eq, e2_eq, eD_eq, aNil_eq, eVos, eVo0, bind1, lstP0, eG1, asB_eq])) (fun _ => by rw [eC_eq]) rfl (by rw [ha]; split <;> rfl) ?_
  simp only [List.set_cons_succ, List.set_cons_zero]
  refine stp (.tup []) (by simp only [eD_eq, aNil_eq, bind1, tupP0]) ?_
  simp only [List.set_cons_succ, List.set_cons_zero]
  refine stpN hst ?_
  refine stpN (ρ' := [.val (.int c), .val (.int p), .val A, .val T, .val TG, .val (.int a), .val (.bl b), .val S, .own [.int p, A, S, .int E]]) (by
    simp only [sSetO_eq, eD_eq, aCons_eq, aNil_eq, e2_eq, eVs, eV0, eVos, eVo0, eC_eq, bind1, sn, d16, m9, addP_ii, ← hE, l4, st_ok, asL_l, own_ok, List.set_cons_succ, List.set_cons_zero]) ?_
  refine cset t0 0 _ q0 rfl (by omega) (by simp only [tB1_eq, e2_eq, eVos, eVo0, eC_eq, bind1, eqP_ii, asB_eq, ht0]) (by simp only [eD_eq, aCons_eq, aNil_eq, e2_eq, eVo0, eC_eq, bind1, d16, f0]) (by rw [eC_eq]; rfl) ?_
  rw [← hL0]
  refine cset t1 1 _ q1 n0 (by omega) (by rw [ht1]; exact tOr_v _ _ (by simp only [tB1_eq, e2_eq, eVos, eVo0, eC_eq, bind1, eqP_ii, asB_eq]) (tAn_v _ _ (by simp only [tB1_eq, eVs, eV0, bind1, asB_eq]) (by simp only [tB1_eq, e2_eq, eVos, eVo0, eC_eq, bind1, ltP_ii, asB_eq]))) (by simp only [eD_eq, aCons_eq, aNil_eq, e2_eq, eVo0, eC_eq, bind1, d16, f1]) (by rw [eC_eq]; rfl) ?_
  rw [← hL1]
  refine cset t2 2 _ q2 n1' (by omega) (by rw [ht2]; exact tOr_v _ _ (by simp only [tB1_eq, e2_eq, eVos, eVo0, eC_eq, bind1, eqP_ii, asB_eq]) (tAn_v _ _ (by simp only [tB1_eq, eVs, eV0, bind1, asB_eq]) (by simp only [tB1_eq, e2_eq, eVos, eVo0, eC_eq, bind1, ltP_ii, asB_eq]))) (by simp only [eD_eq, aCons_eq, aNil_eq, e2_eq, eVs, eV0, eVo0, eC_eq, bind1, d16, f2]) (by rw [eC_eq]; rfl) ?_
  rw [← hL2]
  refine cset t3 3 _ q3 n2' (by omega) (by rw [ht3]; exact tOr_v _ _ (by simp only [tB1_eq, e2_eq, eVos, eVo0, eC_eq, bind1, eqP_ii, asB_eq]) (tAn_v _ _ (by simp only [tB1_eq, eVs, eV0, bind1, asB_eq]) (by simp only [tB1_eq, e2_eq, eVos, eVo0, eC_eq, bind1, ltP_ii, asB_eq]))) (by simp only [eD_eq, aCons_eq, aNil_eq, e2_eq, eVos, eVo0, eC_eq, bind1, d16, sn, f3]) (by rw [eC_eq]; rfl) ?_
  rw [← hL3, hx]
  simp only [bSeq_eq, sRet_eq, e2_eq, eD_eq, aCons_eq, aNil_eq, eVs, eV0, eVos, eVo0, eVo0', eC_eq, bind1, ixP_l0, ixP_l1, ixP_l2, ixP_l3, hw, l4', hmi, fd, ee, st_ok, then_ret, res_ret]
theorem cell_loop {p : Int} {as : List Int} {n : Nat} (hp : p ∈ primesL) (h : NzL as) (h2 : 2 ≤ as.length) (h9 : as.length ≤ 9) (hbd : ∀ c ∈ as, c.natAbs < 2 ^ 300) (n1 : 1 ≤ n) (hn : n ≤ 12) (Z K : PV) : ∀ (ms : List Int) (s7 s8 s9 : Slot), ∃ s7' s8' s9', forL (gN 7) (bSeq (sIf (tNt (tB1 (eD F__law_tree_refused (aCons (e2 fdivP (eVo 7) (eC (.int 2))) (aCons (eV 1) (aCons (eV 2) (aCons (eV 3) aNil))))))) (bSeq (sRet (eC (.bl false))) bNil) bNil) (bSeq (sIf (tNt (tB1 (eD F__law_root_refused (aCons (e2 fdivP (eVo 7) (eC (.int 2))) (aCons (eV 1) (aCons (eV 2) (aCons (eV 4) (aCons (eV 5) aNil)))))))) (bSeq (sRet (eC (.bl false))) bNil) bNil) (bSeq (sSet 8 (eLc [10] (iS (eV 4)) (gN 10) (tB1 (e2 neP (e2 ixP (eVo 10) (eC (.int 1))) (eC (.str "one")))) (eV 10))) (bSeq (sIf (tB1 (e2 neP (eVo 8) (eD lstP aNil))) (bSeq (sSet 9 (e2 ixP (e2 ixP (eVo 8) (e2 modP (e2 fdivP (eVo 7) (eC (.int 2))) (eD lenP (aCons (eVo 8) aNil)))) (eC (.int 0)))) (bSeq (sIf (tB1 (e2 neP (eD F__law_word (aCons (eC (.int 1)) (aCons (eV 1) (aCons (eV 2) (aCons (eV 9) (aCons (eC (.int 400)) aNil)))))) (eD F__law_due (aCons (eC (.int 3)) aNil)))) (bSeq (sRet (eC (.bl false))) bNil) bNil) bNil)) bNil) bNil)))) (ms.map PV.int) [.val Z, .val (.int p), .val (.lst (as.map PV.int)), .val (.int n), .val (.lst ((tree p as n).map rowV)), .val (.lst (((tree p as n).filter fun r => r.word == wOne).map rowV)), .val K, s7, s8, s9, .un] = .next [.val Z, .val (.int p), .val (.lst (as.map PV.int)), .val (.int n), .val (.lst ((tree p as n).map rowV)), .val (.lst (((tree p as n).filter fun r => r.word == wOne).map rowV)), .val K, s7', s8', s9', .un]
  | [], s7, s8, s9 => ⟨s7, s8, s9, rfl⟩
  | c :: ms, s7, s8, s9 => by
    have pb := primesL_le p hp
    have tf := tree_few hp h h9 hn
    have d2 := fdivP_sm (a := c) (b := 2) (by omega) (by omega)
    have ft := f_tree_refused (d := n) hp h h2 h9 (c / 2)
    have fr := f_root_refused hp h h2 h9 hbd n1 hn (c / 2)
    have ip : isP (.int p) = true := by simp [isP, hp]
    have iq := f_is_poly_ok (h.poly h2 h9)
    obtain ⟨O, hO⟩ : ∃ O, O = (tree p as n).filter fun r => !(r.word == wOne) := ⟨_, rfl⟩
    have om : ∀ r ∈ O, r ∈ tree p as n ∧ r.word ≠ wOne := fun r hr => by
      rw [hO] at hr
      obtain ⟨h1, h2⟩ := List.mem_filter.mp hr
      exact ⟨h1, by simpa using h2⟩
    obtain ⟨A, hA⟩ : ∃ A, A = PV.lst (as.map PV.int) := ⟨_, rfl⟩
    obtain ⟨T, hT⟩ : ∃ T, T = PV.lst ((tree p as n).map rowV) := ⟨_, rfl⟩
    obtain ⟨TG, hTG⟩ : ∃ TG, TG = PV.lst (((tree p as n).filter fun r => r.word == wOne).map rowV) := ⟨_, rfl⟩
    have aT : asS T = .ok ((tree p as n).map rowV) := by rw [hT]; rfl
    have okO : okD 30 (.lst (O.map rowV)) = true := ok_rows fun r hr => by obtain ⟨s, e, Ro⟩ := tree_row (om r hr).1; exact row_word Ro
    have go : lcGo (gN 10) (tB1 (e2 neP (e2 ixP (eVo 10) (eC (.int 1))) (eC (.str "one")))) (eV 10) [.val Z, .val (.int p), .val A, .val (.int n), .val T, .val TG, .val K, .val (.int c), s8, s9, .un] ((tree p as n).map rowV) = .ok (O.map rowV) := by
      rw [hO]
      refine lc_rowsF rowV rowV (fun r => !(r.word == wOne)) (tree p as n) fun r hr => ⟨[.val Z, .val (.int p), .val A, .val (.int n), .val T, .val TG, .val K, .val (.int c), s8, s9, .val (rowV r)], rfl, ?_, fun _ => rfl⟩
      obtain ⟨s, d, Ro⟩ := tree_row hr
      have so : PyData.strOk r.word = true := by rcases row_word Ro with e | e | e <;> rw [e] <;> first | exact ok_none | exact ok_one | exact ok_open
      have q : neP (.str r.word) (.str "one") = .ok (.bl (!(r.word == wOne))) := ne_ss so ok_one
      simp only [tB1_eq, e2_eq, eVos, eVo0, eC_eq, bind1, rowV1, q, asB_eq]
    have L := eLc_ok (vs := [10]) (it := iS (eV 4)) (ρ := [.val Z, .val (.int p), .val A, .val (.int n), .val T, .val TG, .val K, .val (.int c), s8, s9, .un]) (items := (tree p as n).map rowV) rfl (by simp only [iS_eq, eVs, eV0, bind1, aT]) (by rw [List.length_map]; omega) go
    obtain ⟨s9', turn⟩ : ∃ s9', (sIf (tB1 (e2 neP (eVo 8) (eD lstP aNil))) (bSeq (sSet 9 (e2 ixP (e2 ixP (eVo 8) (e2 modP (e2 fdivP (eVo 7) (eC (.int 2))) (eD lenP (aCons (eVo 8) aNil)))) (eC (.int 0)))) (bSeq (sIf (tB1 (e2 neP (eD F__law_word (aCons (eC (.int 1)) (aCons (eV 1) (aCons (eV 2) (aCons (eV 9) (aCons (eC (.int 400)) aNil)))))) (eD F__law_due (aCons (eC (.int 3)) aNil)))) (bSeq (sRet (eC (.bl false))) bNil) bNil) bNil)) bNil) [.val Z, .val (.int p), .val A, .val (.int n), .val T, .val TG, .val K, .val (.int c), .val (.lst (O.map rowV)), s9, .un] = .next [.val Z, .val (.int p), .val A, .val (.int n), .val T, .val TG, .val K, .val (.int c), .val (.lst (O.map rowV)), s9', .un] := by
      cases hc : O with
      | nil =>
        have ne : neP (.lst (([] : List PM.Row).map rowV)) (.lst []) = .ok (.bl false) := neP_self (by rw [List.map_nil, okD_lst]; rfl)
        refine ⟨s9, ?_⟩
        rw [sIf_eq, show tB1 (e2 neP (eVo 8) (eD lstP aNil)) [.val Z, .val (.int p), .val A, .val (.int n), .val T, .val TG, .val K, .val (.int c), .val (.lst (([] : List PM.Row).map rowV)), s9, .un] = .ok false by simp only [tB1_eq, e2_eq, eD_eq, aNil_eq, eVos, eVo0, bind1, lstP0, ne, asB_eq], stB_ok, if_neg Bool.false_ne_true, bNil_eq]
      | cons r0 O' =>
        rw [hc] at okO
        have ne : neP (.lst ((r0 :: O').map rowV)) (.lst []) = .ok (.bl true) := by rw [neP_ok okO (by rw [okD_lst]; rfl), List.map_cons, eqV_ll, eqVs_cn]; rfl
        have lO : lenP [.lst ((r0 :: O').map rowV)] = .ok (.int ((r0 :: O').length : Nat)) := by simp
        have ml := modP_pos (a := c / 2) (b := (((r0 :: O').length : Nat) : Int)) (by rw [List.length_cons]; omega)
        obtain ⟨x, hx, ix⟩ := ixP_ex (ps := (r0 :: O').map rowV) (Int.emod_nonneg (c / 2) (show (((r0 :: O').length : Nat) : Int) ≠ 0 by rw [List.length_cons]; omega)) (by rw [List.length_map]; exact Int.emod_lt_of_pos _ (by rw [List.length_cons]; omega))
        obtain ⟨r, hr, rfl⟩ := List.mem_map.mp hx
        obtain ⟨rt, rw_⟩ := om r (by rw [hc]; exact hr)
        obtain ⟨s, d, Ro⟩ := tree_row rt
        have sl := Ro.slen
        have ln := Ro.len
        have wn : wrd p (see p as s).2 d ≠ wOne := by
          rcases row_wrd Ro with ⟨_, _, w⟩ | ⟨w, _, _⟩ | ⟨_, w⟩
          · rw [w]; decide +kernel
          · exact absurd w rw_
          · rw [w]; decide +kernel
        have ri := f_rise_last pb h h2 h9 hbd Ro.pth (by omega) Ro.dig wn
        rw [← Ro.st, ← hA] at ri
        rw [← hA] at iq
        have w := f_word (u := .int 400) (.inr ⟨rfl, f_root_noR (d := .int 400) ip iq ri⟩) (.inr (.inr (.inr (.inl ⟨rfl, rfl⟩))))
        have fd : F__law_due [.int 3] = .ok (.lst (dueL 3)) := f_due 3
        have nn := neP_self (due_ok 3)
        have r0' := rowV0 r
        refine ⟨.val (.tup (r.stem.map PV.int)), ?_⟩
        rw [sIf_eq, show tB1 (e2 neP (eVo 8) (eD lstP aNil)) [.val Z, .val (.int p), .val A, .val (.int n), .val T, .val TG, .val K, .val (.int c), .val (.lst ((r0 :: O').map rowV)), s9, .un] = .ok true by simp only [tB1_eq, e2_eq, eD_eq, aNil_eq, eVos, eVo0, bind1, lstP0, ne, asB_eq], stB_ok, if_pos rfl]
        refine sqS (.tup (r.stem.map PV.int)) (by simp only [e2_eq, eD_eq, aCons_eq, aNil_eq, eVos, eVo0, eC_eq, bind1, d2, lO, ml, ix, r0']) ?_
        simp only [List.set_cons_succ, List.set_cons_zero]
        refine sqK ?_ (by rw [bNil_eq])
        simp only [tB1_eq, e2_eq, eD_eq, aCons_eq, aNil_eq, eVs, eV0, eC_eq, bind1, w, fd, nn, asB_eq]
    obtain ⟨u7, u8, u9, ih⟩ := cell_loop hp h h2 h9 hbd n1 hn Z K ms (.val (.int c)) (.val (.lst (O.map rowV))) s9'
    refine ⟨u7, u8, u9, ?_⟩
    rw [← hA] at ft fr ih ⊢
    rw [← hT] at fr ih ⊢
    rw [← hTG] at fr ih ⊢
    rw [← ih, List.map_cons, forL_cons, gN_eq, onR_some]
    simp only [List.set_cons_succ, List.set_cons_zero]
    refine foN ?_
    refine sqK (by simp only [tNt_eq, tB1_eq, eD_eq, aCons_eq, aNil_eq, e2_eq, eVs, eV0, eVos, eVo0, eC_eq, bind1, d2, ft, asB_eq, Bool.not_true]) ?_
    refine sqK (by simp only [tNt_eq, tB1_eq, eD_eq, aCons_eq, aNil_eq, e2_eq, eVs, eV0, eVos, eVo0, eC_eq, bind1, d2, fr, asB_eq, Bool.not_true]) ?_
    refine sqS (.lst (O.map rowV)) L ?_
    simp only [List.set_cons_succ, List.set_cons_zero]
    exact sqN turn (by rw [bNil_eq])
theorem law_true : ∀ ns : List Int, ns.length ≤ 63 → (∀ z ∈ ns, z.natAbs.log2 < 1048577) → F_law [.frz (ns.map PV.int)] = .ok (.bl true) := by
  intro ns hns hb
  obtain ⟨p, as, d, fa, hp, hn, ⟨a2, a9⟩, ha, d1, d2⟩ := f_asked ns
  have pb := primesL_le p hp
  have tf := tree_few hp hn a9 d2
  have ft := f_tree_of (m := 300) hp hn a2 a9 ha (by omega) d1 d2 tf
  obtain ⟨Z, hZ⟩ : ∃ Z, Z = PV.frz (ns.map PV.int) := ⟨_, rfl⟩
  obtain ⟨A, hA⟩ : ∃ A, A = PV.lst (as.map PV.int) := ⟨_, rfl⟩
  obtain ⟨T, hT⟩ : ∃ T, T = PV.lst ((tree p as d).map rowV) := ⟨_, rfl⟩
  obtain ⟨TG, hTG⟩ : ∃ TG, TG = PV.lst (((tree p as d).filter fun r => r.word == wOne).map rowV) := ⟨_, rfl⟩
  have aT : asS T = .ok ((tree p as d).map rowV) := by rw [hT]; rfl
  have okA : okD 30 A = true := by rw [hA, okD_lst]; simp
  have lA : listP [A] = .ok A := by rw [hA]; rfl
  have eA := eqP_self okA
  have go : lcGo (gN 10) (tB1 (e2 eqP (e2 ixP (eVo 10) (eC (.int 1))) (eC (.str "one")))) (eV 10) [.val Z, .val (.int p), .val A, .val (.int d), .val T, .un, .un, .un, .un, .un, .un] ((tree p as d).map rowV) = .ok (((tree p as d).filter fun r => r.word == wOne).map rowV) := by
    refine lc_rowsF rowV rowV (fun r => r.word == wOne) (tree p as d) fun r hr => ⟨[.val Z, .val (.int p), .val A, .val (.int d), .val T, .un, .un, .un, .un, .un, .val (rowV r)], rfl, ?_, fun _ => rfl⟩
    obtain ⟨s, e, Ro⟩ := tree_row hr
    have so : PyData.strOk r.word = true := by rcases row_word Ro with e | e | e <;> rw [e] <;> first | exact ok_none | exact ok_one | exact ok_open
    have q : eqP (.str r.word) (.str "one") = .ok (.bl (r.word == wOne)) := eq_ss so ok_one
    simp only [tB1_eq, e2_eq, eVos, eVo0, eC_eq, bind1, rowV1, q, asB_eq]
  have L := eLc_ok (vs := [10]) (it := iS (eV 4)) (ρ := [.val Z, .val (.int p), .val A, .val (.int d), .val T, .un, .un, .un, .un, .un, .un]) (items := (tree p as d).map rowV) rfl (by simp only [iS_eq, eVs, eV0, bind1, aT]) (by rw [List.length_map]; omega) go
  rw [← hTG] at L
  obtain ⟨C, hC⟩ : ∃ C : List Int, C = cutG ns (some 7) (some 31) ++ [1] := ⟨_, rfl⟩
  have cl := cut_len ns (some 7) (some 31)
  have sl : slP Z (some 7) (some 31) = .ok (.lst ((cutG ns (some 7) (some 31)).map PV.int)) := by rw [hZ, slP_f, cut_map]
  have l1 : lstP [.int 1] = .ok (.lst [.int 1]) := rfl
  have ad : addP (.lst ((cutG ns (some 7) (some 31)).map PV.int)) (.lst [.int 1]) = .ok (.lst (C.map PV.int)) := by
    rw [addP_ok (by rw [List.length_map]; simp; omega), hC, List.map_append]; rfl
  obtain ⟨u7, u8, u9, i⟩ := cell_loop hp hn a2 a9 ha d1 d2 Z A C .un .un .un
  rw [← hA] at fa ft i
  rw [← hT] at ft i
  rw [← hTG] at i
  rw [← hZ] at fa ⊢
  refine (runF_eq (n := 11) (u := D_law)).trans ?_
  show (D_law [.val Z, .un, .un, .un, .un, .un, .un, .un, .un, .un, .un]).res = _
  unfold D_law
  refine stpN (ρ' := [.val Z, .val (.int p), .val A, .val (.int d), .un, .un, .un, .un, .un, .un, .un]) (by
    simp only [sTo_eq, eD_eq, aCons_eq, aNil_eq, eV0, bind1, fa, st_ok]; rfl) ?_
  refine stp T (by simp only [eD_eq, aCons_eq, aNil_eq, eVs, eV0, bind1, ft]) ?_
  simp only [List.set_cons_succ, List.set_cons_zero]
  refine stp TG (by exact L) ?_
  simp only [List.set_cons_succ, List.set_cons_zero]
  refine stp A (by simp only [eD_eq, aCons_eq, aNil_eq, eVos, eVo0, bind1, lA]) ?_
  simp only [List.set_cons_succ, List.set_cons_zero]
  refine stpFor (C.map PV.int) _ (by simp only [iS_eq, e2_eq, eSl_eq, oSome_eq, eD_eq, aCons_eq, aNil_eq, eVo0, eC_eq, bind1, asI_eq, sl, l1, ad, asS_l]) i ?_
  simp only [bSeq_eq, sRet_eq, e2_eq, eVos, eVo0, bind1, eA, st_ok, then_ret, res_ret]
end K68
set_option Elab.async false
set_option linter.all false
set_option maxRecDepth 100000
set_option autoImplicit false
set_option maxHeartbeats 0
namespace K68
open PySem PySem.Spec L2 PL PM
open PyProof.Rows hiding St
def topS (i : Nat) : Stmt := PySem.Challenge.pw_leftnumbers_k68_refused_trees.main.body.getD i (.Pass ⟨0, 0, 0, 0⟩)
abbrev st_is_whole : Stmt := topS 18
theorem sc_is_whole : FnScope ["thing"] ["thing"] (defScope st_is_whole) := ⟨rfl, rfl, rfl, by decide +kernel, rfl, by decide +kernel, by decide +kernel⟩
abbrev st_is_prime : Stmt := topS 19
theorem sc_is_prime : FnScope ["thing", "part"] ["thing"] (defScope st_is_prime) := ⟨rfl, rfl, rfl, by decide +kernel, rfl, by decide +kernel, by decide +kernel⟩
abbrev st_exponent : Stmt := topS 20
theorem sc_exponent : FnScope ["p", "number", "found", "rest", "left"] ["p", "number"] (defScope st_exponent) := ⟨rfl, rfl, rfl, by decide +kernel, rfl, by decide +kernel, by decide +kernel⟩
abbrev st_are_figures : Stmt := topS 22
theorem sc_are_figures : FnScope ["p", "figures", "one"] ["p", "figures"] (defScope st_are_figures) := ⟨rfl, rfl, rfl, by decide +kernel, rfl, by decide +kernel, by decide +kernel⟩
abbrev st_left_number : Stmt := topS 23
theorem sc_left_number : FnScope ["p", "least", "figures", "noughts"] ["p", "least", "figures"] (defScope st_left_number) := ⟨rfl, rfl, rfl, by decide +kernel, rfl, by decide +kernel, by decide +kernel⟩
abbrev st_of_whole : Stmt := topS 24
theorem sc_of_whole : FnScope ["p", "least", "number", "many", "figures", "k", "digit"] ["p", "least", "number", "many"] (defScope st_of_whole) := ⟨rfl, rfl, rfl, by decide +kernel, rfl, by decide +kernel, by decide +kernel⟩
abbrev st_is_poly : Stmt := topS 27
theorem sc_is_poly : FnScope ["thing", "number"] ["thing"] (defScope st_is_poly) := ⟨rfl, rfl, rfl, by decide +kernel, rfl, by decide +kernel, by decide +kernel⟩
abbrev st_want_poly : Stmt := topS 28
theorem sc_want_poly : FnScope ["thing"] ["thing"] (defScope st_want_poly) := ⟨rfl, rfl, rfl, by decide +kernel, rfl, by decide +kernel, by decide +kernel⟩
abbrev st_whole_worth : Stmt := topS 29
theorem sc_whole_worth : FnScope ["poly", "number", "found", "one"] ["poly", "number"] (defScope st_whole_worth) := ⟨rfl, rfl, rfl, by decide +kernel, rfl, by decide +kernel, by decide +kernel⟩
abbrev st_slope_of : Stmt := topS 30
theorem sc_slope_of : FnScope ["poly", "k", "number"] ["poly"] (defScope st_slope_of) := ⟨rfl, rfl, rfl, by decide +kernel, rfl, by decide +kernel, by decide +kernel⟩
abbrev st_is_stem : Stmt := topS 33
theorem sc_is_stem : FnScope ["p", "thing", "digit"] ["p", "thing"] (defScope st_is_stem) := ⟨rfl, rfl, rfl, by decide +kernel, rfl, by decide +kernel, by decide +kernel⟩
abbrev st_shifted : Stmt := topS 34
theorem sc_shifted : FnScope ["poly", "number", "found", "first", "k"] ["poly", "number"] (defScope st_shifted) := ⟨rfl, rfl, rfl, by decide +kernel, rfl, by decide +kernel, by decide +kernel⟩
abbrev st_lifted : Stmt := topS 35
theorem sc_lifted : FnScope ["p", "poly", "lift", "found", "k", "number"] ["p", "poly"] (defScope st_lifted) := ⟨rfl, rfl, rfl, by decide +kernel, rfl, by decide +kernel, by decide +kernel⟩
abbrev st_one_on : Stmt := topS 36
theorem sc_one_on : FnScope ["p", "poly", "digit", "by", "found", "number"] ["p", "poly", "digit"] (defScope st_one_on) := ⟨rfl, rfl, rfl, by decide +kernel, rfl, by decide +kernel, by decide +kernel⟩
abbrev st_seen_from : Stmt := topS 37
theorem sc_seen_from : FnScope ["p", "poly", "stem", "lift", "seen", "digit", "more"] ["p", "poly", "stem"] (defScope st_seen_from) := ⟨rfl, rfl, rfl, by decide +kernel, rfl, by decide +kernel, by decide +kernel⟩
abbrev st_word_of : Stmt := topS 41
theorem sc_word_of : FnScope ["p", "seen", "digit"] ["p", "seen", "digit"] (defScope st_word_of) := ⟨rfl, rfl, rfl, by decide +kernel, rfl, by decide +kernel, by decide +kernel⟩
abbrev st_grown : Stmt := topS 42
theorem sc_grown : FnScope ["p", "stem", "depth", "seen", "lift", "found", "digit", "longer", "word", "more", "beyond"] ["p", "stem", "depth", "seen", "lift"] (defScope st_grown) := ⟨rfl, rfl, rfl, by decide +kernel, rfl, by decide +kernel, by decide +kernel⟩
abbrev st_tree_of : Stmt := topS 43
theorem sc_tree_of : FnScope ["p", "poly", "depth", "lift", "seen"] ["p", "poly", "depth"] (defScope st_tree_of) := ⟨rfl, rfl, rfl, by decide +kernel, rfl, by decide +kernel, by decide +kernel⟩
abbrev st_rise_of : Stmt := topS 44
theorem sc_rise_of : FnScope ["p", "poly", "stem", "lift", "seen", "digit", "more"] ["p", "poly", "stem"] (defScope st_rise_of) := ⟨rfl, rfl, rfl, by decide +kernel, rfl, by decide +kernel, by decide +kernel⟩
abbrev st_undone : Stmt := topS 45
theorem sc_undone : FnScope ["p", "number", "digit"] ["p", "number"] (defScope st_undone) := ⟨rfl, rfl, rfl, by decide +kernel, rfl, by decide +kernel, by decide +kernel⟩
abbrev st_root_of : Stmt := topS 46
theorem sc_root_of : FnScope ["p", "poly", "stem", "place", "rise", "root", "by", "digit", "low", "k", "turn"] ["p", "poly", "stem", "place"] (defScope st_root_of) := ⟨rfl, rfl, rfl, by decide +kernel, rfl, by decide +kernel, by decide +kernel⟩
abbrev st__law_cell_at : Stmt := topS 48
theorem sc__law_cell_at : FnScope ["_law_script", "_law_k"] ["_law_script", "_law_k"] (defScope st__law_cell_at) := ⟨rfl, rfl, rfl, by decide +kernel, rfl, by decide +kernel, by decide +kernel⟩
abbrev st__law_prime : Stmt := topS 50
theorem sc__law_prime : FnScope ["_law_cell"] ["_law_cell"] (defScope st__law_prime) := ⟨rfl, rfl, rfl, by decide +kernel, rfl, by decide +kernel, by decide +kernel⟩
abbrev st__law_product : Stmt := topS 51
theorem sc__law_product : FnScope ["_law_one", "_law_other", "_law_due_here", "_law_k", "_law_m"] ["_law_one", "_law_other"] (defScope st__law_product) := ⟨rfl, rfl, rfl, by decide +kernel, rfl, by decide +kernel, by decide +kernel⟩
abbrev st__law_factors : Stmt := topS 52
theorem sc__law_factors : FnScope ["_law_cells", "_law_p", "_law_factors_here", "_law_cell", "_law_top", "_law_bottom", "_law_step", "_law_k"] ["_law_cells", "_law_p"] (defScope st__law_factors) := ⟨rfl, rfl, rfl, by decide +kernel, rfl, by decide +kernel, by decide +kernel⟩
abbrev st__law_poly : Stmt := topS 53
theorem sc__law_poly : FnScope ["_law_cells", "_law_p", "_law_poly_here", "_law_cell", "_law_by", "_law_top", "_law_bottom"] ["_law_cells", "_law_p"] (defScope st__law_poly) := ⟨rfl, rfl, rfl, by decide +kernel, rfl, by decide +kernel, by decide +kernel⟩
abbrev st__law_asked : Stmt := topS 54
theorem sc__law_asked : FnScope ["_law_script", "_law_first", "_law_p", "_law_many", "_law_poly_here", "_law_depth", "_law_k"] ["_law_script"] (defScope st__law_asked) := ⟨rfl, rfl, rfl, by decide +kernel, rfl, by decide +kernel, by decide +kernel⟩
abbrev st__law_no_prime : Stmt := topS 58
theorem sc__law_no_prime : FnScope ["_law_cell", "_law_far"] ["_law_cell"] (defScope st__law_no_prime) := ⟨rfl, rfl, rfl, by decide +kernel, rfl, by decide +kernel, by decide +kernel⟩
abbrev st__law_no_poly : Stmt := topS 59
theorem sc__law_no_poly : FnScope ["_law_cell", "_law_far"] ["_law_cell"] (defScope st__law_no_poly) := ⟨rfl, rfl, rfl, by decide +kernel, rfl, by decide +kernel, by decide +kernel⟩
abbrev st__law_no_depth : Stmt := topS 60
theorem sc__law_no_depth : FnScope ["_law_cell"] ["_law_cell"] (defScope st__law_no_depth) := ⟨rfl, rfl, rfl, by decide +kernel, rfl, by decide +kernel, by decide +kernel⟩
abbrev st__law_no_stem : Stmt := topS 61
theorem sc__law_no_stem : FnScope ["_law_cell", "_law_rows", "_law_p", "_law_stem", "_law_closed", "_law_some", "_law_row"] ["_law_cell", "_law_rows", "_law_p"] (defScope st__law_no_stem) := ⟨rfl, rfl, rfl, by decide +kernel, rfl, by decide +kernel, by decide +kernel⟩
abbrev st__law_no_end : Stmt := topS 62
theorem sc__law_no_end : FnScope ["_law_cell", "_law_length"] ["_law_cell", "_law_length"] (defScope st__law_no_end) := ⟨rfl, rfl, rfl, by decide +kernel, rfl, by decide +kernel, by decide +kernel⟩
abbrev st__law_word : Stmt := topS 63
theorem sc__law_word : FnScope ["_law_way", "_law_p", "_law_poly_here", "_law_third", "_law_place", "_law_told", "e", "_law_others"] ["_law_way", "_law_p", "_law_poly_here", "_law_third", "_law_place"] (defScope st__law_word) := ⟨rfl, rfl, rfl, by decide +kernel, rfl, by decide +kernel, by decide +kernel⟩
abbrev st__law_due : Stmt := topS 64
theorem sc__law_due : FnScope ["_law_number", "_law_k"] ["_law_number"] (defScope st__law_due) := ⟨rfl, rfl, rfl, by decide +kernel, rfl, by decide +kernel, by decide +kernel⟩
abbrev st__law_tree_refused : Stmt := topS 65
theorem sc__law_tree_refused : FnScope ["_law_cell", "_law_p", "_law_poly_here", "_law_depth", "_law_at", "_law_behind", "_law_things", "_law_k"] ["_law_cell", "_law_p", "_law_poly_here", "_law_depth"] (defScope st__law_tree_refused) := ⟨rfl, rfl, rfl, by decide +kernel, rfl, by decide +kernel, by decide +kernel⟩
abbrev st__law_root_refused : Stmt := topS 66
theorem sc__law_root_refused : FnScope ["_law_cell", "_law_p", "_law_poly_here", "_law_rows", "_law_good", "_law_at", "_law_behind", "_law_stem", "_law_things"] ["_law_cell", "_law_p", "_law_poly_here", "_law_rows", "_law_good"] (defScope st__law_root_refused) := ⟨rfl, rfl, rfl, by decide +kernel, rfl, by decide +kernel, by decide +kernel⟩
abbrev st_law : Stmt := topS 67
theorem sc_law : FnScope ["_law_script", "_law_p", "_law_poly_here", "_law_depth", "_law_rows", "_law_good", "_law_kept", "_law_cell", "_law_others", "_law_stem", "_law_row"] ["_law_script"] (defScope st_law) := ⟨rfl, rfl, rfl, by decide +kernel, rfl, by decide +kernel, by decide +kernel⟩
def dsL : List Str := ["NoDepth", "NoFigures", "NoFraction", "NoPlace", "NoPolynomial", "NoPower", "NoPrime", "NoQuotient", "NoRoot", "NoSize", "NoText", "NotNear", "TooFew", "Unlike"]
structure Tx (K : PySem.W.Frag) (mg : Str → Option Value) : Prop where
  d_is_whole : DefE K mg "is_whole" st_is_whole ["thing"]
  d_is_prime : DefE K mg "is_prime" st_is_prime ["thing"]
  d_exponent : DefE K mg "exponent" st_exponent ["p", "number"]
  d_are_figures : DefE K mg "are_figures" st_are_figures ["p", "figures"]
  d_left_number : DefE K mg "left_number" st_left_number ["p", "least", "figures"]
  d_of_whole : DefE K mg "of_whole" st_of_whole ["p", "least", "number", "many"]
  d_is_poly : DefE K mg "is_poly" st_is_poly ["thing"]
  d_want_poly : DefE K mg "want_poly" st_want_poly ["thing"]
  d_whole_worth : DefE K mg "whole_worth" st_whole_worth ["poly", "number"]
  d_slope_of : DefE K mg "slope_of" st_slope_of ["poly"]
  d_is_stem : DefE K mg "is_stem" st_is_stem ["p", "thing"]
  d_shifted : DefE K mg "shifted" st_shifted ["poly", "number"]
  d_lifted : DefE K mg "lifted" st_lifted ["p", "poly"]
  d_one_on : DefE K mg "one_on" st_one_on ["p", "poly", "digit"]
  d_seen_from : DefE K mg "seen_from" st_seen_from ["p", "poly", "stem"]
  d_word_of : DefE K mg "word_of" st_word_of ["p", "seen", "digit"]
  d_grown : DefE K mg "grown" st_grown ["p", "stem", "depth", "seen", "lift"]
  d_tree_of : DefE K mg "tree_of" st_tree_of ["p", "poly", "depth"]
  d_rise_of : DefE K mg "rise_of" st_rise_of ["p", "poly", "stem"]
  d_undone : DefE K mg "undone" st_undone ["p", "number"]
  d_root_of : DefE K mg "root_of" st_root_of ["p", "poly", "stem", "place"]
  d__law_cell_at : DefE K mg "_law_cell_at" st__law_cell_at ["_law_script", "_law_k"]
  d__law_prime : DefE K mg "_law_prime" st__law_prime ["_law_cell"]
  d__law_product : DefE K mg "_law_product" st__law_product ["_law_one", "_law_other"]
  d__law_factors : DefE K mg "_law_factors" st__law_factors ["_law_cells", "_law_p"]
  d__law_poly : DefE K mg "_law_poly" st__law_poly ["_law_cells", "_law_p"]
  d__law_asked : DefE K mg "_law_asked" st__law_asked ["_law_script"]
  d__law_no_prime : DefE K mg "_law_no_prime" st__law_no_prime ["_law_cell"]
  d__law_no_poly : DefE K mg "_law_no_poly" st__law_no_poly ["_law_cell"]
  d__law_no_depth : DefE K mg "_law_no_depth" st__law_no_depth ["_law_cell"]
  d__law_no_stem : DefE K mg "_law_no_stem" st__law_no_stem ["_law_cell", "_law_rows", "_law_p"]
  d__law_no_end : DefE K mg "_law_no_end" st__law_no_end ["_law_cell", "_law_length"]
  d__law_word : DefE K mg "_law_word" st__law_word ["_law_way", "_law_p", "_law_poly_here", "_law_third", "_law_place"]
  d__law_due : DefE K mg "_law_due" st__law_due ["_law_number"]
  d__law_tree_refused : DefE K mg "_law_tree_refused" st__law_tree_refused ["_law_cell", "_law_p", "_law_poly_here", "_law_depth"]
  d__law_root_refused : DefE K mg "_law_root_refused" st__law_root_refused ["_law_cell", "_law_p", "_law_poly_here", "_law_rows", "_law_good"]
  n_ValueError : mg "ValueError" = none
  n_all : mg "all" = none
  n_bool : mg "bool" = none
  n_divmod : mg "divmod" = none
  n_enumerate : mg "enumerate" = none
  n_int : mg "int" = none
  n_isinstance : mg "isinstance" = none
  n_len : mg "len" = none
  n_list : mg "list" = none
  n_min : mg "min" = none
  n_range : mg "range" = none
  n_reversed : mg "reversed" = none
  n_tuple : mg "tuple" = none
  c_MOST_DEPTH : GlI mg "MOST_DEPTH" 12
  c_MOST_END : GlI mg "MOST_END" 400
  c_MOST_FIGURES : GlI mg "MOST_FIGURES" 12
  c_MOST_NUMBERS : GlI mg "MOST_NUMBERS" 9
  c_MOST_PRIME : GlI mg "MOST_PRIME" 97
  x_NoDepth : ∃ C, ExcT K mg "NoDepth" C
  x_NoFigures : ∃ C, ExcT K mg "NoFigures" C
  x_NoPlace : ∃ C, ExcT K mg "NoPlace" C
  x_NoPolynomial : ∃ C, ExcT K mg "NoPolynomial" C
  x_NoPrime : ∃ C, ExcT K mg "NoPrime" C
  x_NoRoot : ∃ C, ExcT K mg "NoRoot" C
  u_LeftError : ∃ C, mg "LeftError" = some (.ref C)
  u_NoDepth : ∃ C, mg "NoDepth" = some (.ref C)
  u_NoFigures : ∃ C, mg "NoFigures" = some (.ref C)
  u_NoFraction : ∃ C, mg "NoFraction" = some (.ref C)
  u_NoPlace : ∃ C, mg "NoPlace" = some (.ref C)
  u_NoPolynomial : ∃ C, mg "NoPolynomial" = some (.ref C)
  u_NoPower : ∃ C, mg "NoPower" = some (.ref C)
  u_NoPrime : ∃ C, mg "NoPrime" = some (.ref C)
  u_NoQuotient : ∃ C, mg "NoQuotient" = some (.ref C)
  u_NoRoot : ∃ C, mg "NoRoot" = some (.ref C)
  u_NoSize : ∃ C, mg "NoSize" = some (.ref C)
  u_NoText : ∃ C, mg "NoText" = some (.ref C)
  u_NotNear : ∃ C, mg "NotNear" = some (.ref C)
  u_TooFew : ∃ C, mg "TooFew" = some (.ref C)
  u_Unlike : ∃ C, mg "Unlike" = some (.ref C)
  kq : ∀ c ∈ csL, ∀ d ∈ dsL, KQ K mg c d
  kv : ∀ c ∈ csL, ∀ C, mg c = some (.ref C) → PySem.W.kitOne K (.ref C) (.type "ValueError") = some (subX c "ValueError")
  ke : ∀ c ∈ csL, KE K mg c "LeftError"
section
variable {P : Program} {w : World} {K : PySem.W.Frag} {mg : Str → Option Value} {base : Heap}
theorem bd_is_whole (B : Tx K mg) {f : Addr} {cdv : Value} {A : Around} {outer : List PySem.Env} {s : Shared} {H : Hp} {E : XK} (hr : Room 0 (A.deeper (envOfC "is_whole" (defScope st_is_whole) s.heap.objs.size f cdv))) :
    BJ (cxOf (L2N.CX P w) P w K mg base ["thing"] "is_whole" (defScope st_is_whole) f cdv A outer s H E) (fun cls d _ H => E cls d H) false (defBody st_is_whole) D_is_whole :=
  (b_cons (s_ret (e_and (e_isi (n := "int") B.n_isinstance (by rfl) (e_varT (pv 0)) (pe_bltn (by rfl) B.n_int (by decide +kernel) rfl)) (e_one (e_not (e_isi (n := "bool") B.n_isinstance (by rfl) (e_varT (pv 0)) (pe_bltn (by rfl) B.n_bool (by decide +kernel) rfl))))))
b_nil)
theorem ok_is_whole (B : Tx K mg) : Okd P w K mg base "is_whole" ["thing"] 1 1 false F_is_whole := def_ok B.d_is_whole sc_is_whole rfl (fun z => nomatch z) fun f cdv A outer s H E hr => bd_is_whole B hr
theorem bd_is_prime (B : Tx K mg) {f : Addr} {cdv : Value} {A : Around} {outer : List PySem.Env} {s : Shared} {H : Hp} {E : XK} (hr : Room 1 (A.deeper (envOfC "is_prime" (defScope st_is_prime) s.heap.objs.size f cdv))) :
    BJ (cxOf (L2N.CX P w) P w K mg base ["thing", "part"] "is_prime" (defScope st_is_prime) f cdv A outer s H E) (fun cls d _ H => E cls d H) false (defBody st_is_prime) D_is_prime :=
  (b_cons (s_if (t_w (w_or (t_not (t_val (e_callD (ok_is_whole B) hr (by decide) tk_of (by rfl) (a_cons (e_var (pv 0)) a_nil) (ALen.cons ALen.nil)))) (w_or (t_lt (e_varT (pv 0)) (e_s_t e_int)) (w_or1 (t_gt (e_varT (pv 0)) (e_s_t (e_glI B.c_MOST_PRIME (by rfl))))))))
(b_cons (s_ret e_bl)
b_nil)
b_nil)
(b_cons (s_ret (e_all rfl B.n_all (by rfl) (a_cons (e_f_t (e_lc (own := [("part", 1)]) rfl sc_is_prime.nd (i_rng2 B.n_range (by rfl) (a_cons (e_s_t e_int) (a_cons (e_varT (pv 0)) a_nil))) (blkOk_by (own := [("part", 1)]) (N := ["thing", "part"]) (sc := defScope st_is_prime) (by decide +kernel)) (by decide) (fun _ _ _ _ _ => (g_name (pg_name (i := 1) sc_is_prime.nd rfl (Or.inl rfl)))) (fun _ _ _ _ _ => c_nil) (fun _ _ _ _ _ => (e_ne hr.units (e_s_t (e_mod (e_varT (pv 0)) (e_varT (pv 1)))) (e_s_t e_int))))) a_nil)))
b_nil))
theorem ok_is_prime (B : Tx K mg) : Okd P w K mg base "is_prime" ["thing"] 2 1 false F_is_prime := def_ok B.d_is_prime sc_is_prime rfl (fun z => nomatch z) fun f cdv A outer s H E hr => bd_is_prime B hr
theorem bd_exponent (B : Tx K mg) {f : Addr} {cdv : Value} {A : Around} {outer : List PySem.Env} {s : Shared} {H : Hp} {E : XK} (hr : Room 0 (A.deeper (envOfC "exponent" (defScope st_exponent) s.heap.objs.size f cdv))) :
    BJ (cxOf (L2N.CX P w) P w K mg base ["p", "number", "found", "rest", "left"] "exponent" (defScope st_exponent) f cdv A outer s H E) (fun cls d _ H => E cls d H) false (defBody st_exponent) D_exponent :=
  (b_cons (s_set (i := 2) sc_exponent.nd rfl (Or.inl rfl) e_int)
(b_cons (s_to (e_divmod B.n_divmod (by rfl) (a_cons (e_varT (pv 1)) (a_cons (e_varT (pv 0)) a_nil))) (g_tup rfl (gs_cons (g_name (pg_name (i := 3) sc_exponent.nd rfl (Or.inl rfl))) (gs_cons (g_name (pg_name (i := 4) sc_exponent.nd rfl (Or.inl rfl))) gs_nil)) (gs_len (gs_len gs_len0))))
(b_cons (s_while hp_of (t_eq hr.units (e_varT (pv 4)) (e_s_t e_int))
(b_cons (s_augAdd (i := 2) sc_exponent.nd rfl (Or.inl rfl) (e_s_t e_int))
(b_cons (s_to (e_divmod B.n_divmod (by rfl) (a_cons (e_varT (pv 3)) (a_cons (e_varT (pv 0)) a_nil))) (g_tup rfl (gs_cons (g_name (pg_name (i := 3) sc_exponent.nd rfl (Or.inl rfl))) (gs_cons (g_name (pg_name (i := 4) sc_exponent.nd rfl (Or.inl rfl))) gs_nil)) (gs_len (gs_len gs_len0))))
b_nil)))
(b_cons (s_ret (e_var (pv 2)))
b_nil))))
theorem ok_exponent (B : Tx K mg) : Okd P w K mg base "exponent" ["p", "number"] 1 2 false F_exponent := def_ok B.d_exponent sc_exponent rfl (fun z => nomatch z) fun f cdv A outer s H E hr => bd_exponent B hr
theorem bd_are_figures (B : Tx K mg) {f : Addr} {cdv : Value} {A : Around} {outer : List PySem.Env} {s : Shared} {H : Hp} {E : XK} (hr : Room 1 (A.deeper (envOfC "are_figures" (defScope st_are_figures) s.heap.objs.size f cdv))) :
    BJ (cxOf (L2N.CX P w) P w K mg base ["p", "figures", "one"] "are_figures" (defScope st_are_figures) f cdv A outer s H E) (fun cls d _ H => E cls d H) false (defBody st_are_figures) D_are_figures :=
  (b_cons (s_if (t_not (t_val (e_isi2 (n := "list") (m := "tuple") B.n_isinstance (by rfl) (e_varT (pv 1)) (pe_bltn (by rfl) B.n_list (by decide +kernel) rfl) (pe_bltn (by rfl) B.n_tuple (by decide +kernel) rfl))))
(b_cons (s_ret e_bl)
b_nil)
b_nil)
(b_cons (s_ret (e_all rfl B.n_all (by rfl) (a_cons (e_f_t (e_lc (own := [("one", 2)]) rfl sc_are_figures.nd (i_seq (e_var (pv 1))) (blkOk_by (own := [("one", 2)]) (N := ["p", "figures", "one"]) (sc := defScope st_are_figures) (by decide +kernel)) (by decide) (fun _ _ _ _ _ => (g_name (pg_name (i := 2) sc_are_figures.nd rfl (Or.inl rfl)))) (fun _ _ _ _ _ => c_nil) (fun _ _ _ _ _ => (e_and (e_callD (ok_is_whole B) hr (by decide) takesN (by rfl) (a_cons (e_var (pv 2)) a_nil) (ALen.cons ALen.nil)) (e_one (e_leLt (e_s_t e_int) (e_varT (pv 2)) (e_varT (pv 0)))))))) a_nil)))
b_nil))
theorem ok_are_figures (B : Tx K mg) : Okd P w K mg base "are_figures" ["p", "figures"] 2 2 false F_are_figures := def_ok B.d_are_figures sc_are_figures rfl (fun z => nomatch z) fun f cdv A outer s H E hr => bd_are_figures B hr
theorem bd_left_number (B : Tx K mg) {f : Addr} {cdv : Value} {A : Around} {outer : List PySem.Env} {s : Shared} {H : Hp} {E : XK} (hr : Room 2 (A.deeper (envOfC "left_number" (defScope st_left_number) s.heap.objs.size f cdv))) :
    BJ (cxOf (L2N.CX P w) P w K mg base ["p", "least", "figures", "noughts"] "left_number" (defScope st_left_number) f cdv A outer s H E) (fun cls d _ H => E cls d H) false (defBody st_left_number) D_left_number :=
  (b_cons (s_if (t_not (t_val (e_callD (ok_is_prime B) hr (by decide) tk_of (by rfl) (a_cons (e_var (pv 0)) a_nil) (ALen.cons ALen.nil))))
(b_cons (s_raise B.x_NoPrime.choose_spec rfl tk_of (by rfl))
b_nil)
b_nil)
(b_cons (s_if (t_not (t_val (e_callD (ok_is_whole B) hr (by decide) tk_of (by rfl) (a_cons (e_var (pv 1)) a_nil) (ALen.cons ALen.nil))))
(b_cons (s_raise B.x_NoPlace.choose_spec rfl tk_of (by rfl))
b_nil)
b_nil)
(b_cons (s_if (t_not (t_val (e_callD (ok_are_figures B) hr (by decide) tk_of (by rfl) (a_cons (e_var (pv 0)) (a_cons (e_var (pv 2)) a_nil)) (ALen.cons (ALen.cons ALen.nil)))))
(b_cons (s_raise B.x_NoFigures.choose_spec rfl tk_of (by rfl))
b_nil)
b_nil)
(b_cons (s_set (i := 3) sc_left_number.nd rfl (Or.inl rfl) e_int)
(b_cons (s_while hp_of (t_w (w_and (t_lt (e_varT (pv 3)) (e_s_t (e_len B.n_len (by rfl) (a_cons (e_varT (pv 2)) a_nil)))) (w_and1 (t_eq hr.units (e_s_t (e_item (e_varT (pv 2)) (e_varT (pv 3)) (fun _ _ => rfl))) (e_s_t e_int)))))
(b_cons (s_augAdd (i := 3) sc_left_number.nd rfl (Or.inl rfl) (e_s_t e_int))
b_nil))
(b_cons (s_ret (e_tup (a_cons (e_var (pv 0)) (a_cons (e_add (e_varT (pv 1)) (e_varT (pv 3))) (a_cons (e_tuple B.n_tuple (by rfl) (a_cons (e_s_t (e_slice (e_varT (pv 2)) (o_some (e_var (pv 3))) o_none)) a_nil)) a_nil)))))
b_nil))))))
theorem ok_left_number (B : Tx K mg) : Okd P w K mg base "left_number" ["p", "least", "figures"] 3 3 false F_left_number := def_ok B.d_left_number sc_left_number rfl (fun z => nomatch z) fun f cdv A outer s H E hr => bd_left_number B hr
theorem bd_of_whole (B : Tx K mg) {f : Addr} {cdv : Value} {A : Around} {outer : List PySem.Env} {s : Shared} {H : Hp} {E : XK} (hr : Room 3 (A.deeper (envOfC "of_whole" (defScope st_of_whole) s.heap.objs.size f cdv))) :
    BJ (cxOf (L2N.CX P w) P w K mg base ["p", "least", "number", "many", "figures", "k", "digit"] "of_whole" (defScope st_of_whole) f cdv A outer s H E) (fun cls d _ H => E cls d H) false (defBody st_of_whole) D_of_whole :=
  (b_cons (s_setO (i := 4) sc_of_whole.nd rfl (Or.inl rfl) (e_lst a_nil))
(b_cons (s_for hp_of rfl (i_rng1 B.n_range (by rfl) (a_cons (e_varT (pv 3)) a_nil)) (g_name (pg_name (i := 5) sc_of_whole.nd rfl (Or.inl rfl)))
(b_cons (s_to (e_divmod B.n_divmod (by rfl) (a_cons (e_varT (pv 2)) (a_cons (e_varT (pv 0)) a_nil))) (g_tup rfl (gs_cons (g_name (pg_name (i := 2) sc_of_whole.nd rfl (Or.inl rfl))) (gs_cons (g_name (pg_name (i := 6) sc_of_whole.nd rfl (Or.inl rfl))) gs_nil)) (gs_len (gs_len gs_len0))))
(b_cons (s_app (i := 4) (pv 4) (e_var (pv 6)))
b_nil)))
(s_frz (i := 4) (b_cons (s_ret (e_callD (ok_left_number B) hr (by decide) tk_of (by rfl) (a_cons (e_var (pv 0)) (a_cons (e_var (pv 1)) (a_cons (e_var (pv 4)) a_nil))) (ALen.cons (ALen.cons (ALen.cons ALen.nil)))))
b_nil))))
theorem ok_of_whole (B : Tx K mg) : Okd P w K mg base "of_whole" ["p", "least", "number", "many"] 4 4 false F_of_whole := def_ok B.d_of_whole sc_of_whole rfl (fun z => nomatch z) fun f cdv A outer s H E hr => bd_of_whole B hr
theorem bd_is_poly (B : Tx K mg) {f : Addr} {cdv : Value} {A : Around} {outer : List PySem.Env} {s : Shared} {H : Hp} {E : XK} (hr : Room 1 (A.deeper (envOfC "is_poly" (defScope st_is_poly) s.heap.objs.size f cdv))) :
    BJ (cxOf (L2N.CX P w) P w K mg base ["thing", "number"] "is_poly" (defScope st_is_poly) f cdv A outer s H E) (fun cls d _ H => E cls d H) false (defBody st_is_poly) D_is_poly :=
  (b_cons (s_if (t_w (w_or (t_not (t_val (e_isi (n := "list") B.n_isinstance (by rfl) (e_varT (pv 0)) (pe_bltn (by rfl) B.n_list (by decide +kernel) rfl)))) (w_or (t_lt (e_s_t (e_len B.n_len (by rfl) (a_cons (e_varT (pv 0)) a_nil))) (e_s_t e_int)) (w_or1 (t_gt (e_s_t (e_len B.n_len (by rfl) (a_cons (e_varT (pv 0)) a_nil))) (e_s_t (e_glI B.c_MOST_NUMBERS (by rfl))))))))
(b_cons (s_ret e_bl)
b_nil)
b_nil)
(b_cons (s_ret (e_and (e_all rfl B.n_all (by rfl) (a_cons (e_f_t (e_lc (own := [("number", 1)]) rfl sc_is_poly.nd (i_seq (e_var (pv 0))) (blkOk_by (own := [("number", 1)]) (N := ["thing", "number"]) (sc := defScope st_is_poly) (by decide +kernel)) (by decide) (fun _ _ _ _ _ => (g_name (pg_name (i := 1) sc_is_poly.nd rfl (Or.inl rfl)))) (fun _ _ _ _ _ => c_nil) (fun _ _ _ _ _ => (e_callD (ok_is_whole B) hr (by decide) takesN (by rfl) (a_cons (e_var (pv 1)) a_nil) (ALen.cons ALen.nil))))) a_nil)) (e_one (e_ne hr.units (e_s_t (e_item (e_varT (pv 0)) (e_s_t (e_neg (e_s_t e_int))) (fun _ _ => rfl))) (e_s_t e_int)))))
b_nil))
theorem ok_is_poly (B : Tx K mg) : Okd P w K mg base "is_poly" ["thing"] 2 1 false F_is_poly := def_ok B.d_is_poly sc_is_poly rfl (fun z => nomatch z) fun f cdv A outer s H E hr => bd_is_poly B hr
theorem bd_want_poly (B : Tx K mg) {f : Addr} {cdv : Value} {A : Around} {outer : List PySem.Env} {s : Shared} {H : Hp} {E : XK} (hr : Room 2 (A.deeper (envOfC "want_poly" (defScope st_want_poly) s.heap.objs.size f cdv))) :
    BJ (cxOf (L2N.CX P w) P w K mg base ["thing"] "want_poly" (defScope st_want_poly) f cdv A outer s H E) (fun cls d _ H => E cls d H) false (defBody st_want_poly) D_want_poly :=
  (b_cons (s_if (t_not (t_val (e_callD (ok_is_poly B) hr (by decide) tk_of (by rfl) (a_cons (e_var (pv 0)) a_nil) (ALen.cons ALen.nil))))
(b_cons (s_raise B.x_NoPolynomial.choose_spec rfl tk_of (by rfl))
b_nil)
b_nil)
b_nil)
theorem ok_want_poly (B : Tx K mg) : Okd P w K mg base "want_poly" ["thing"] 3 1 false F_want_poly := def_ok B.d_want_poly sc_want_poly rfl (fun z => nomatch z) fun f cdv A outer s H E hr => bd_want_poly B hr
theorem bd_whole_worth (B : Tx K mg) {f : Addr} {cdv : Value} {A : Around} {outer : List PySem.Env} {s : Shared} {H : Hp} {E : XK} (hr : Room 0 (A.deeper (envOfC "whole_worth" (defScope st_whole_worth) s.heap.objs.size f cdv))) :
    BJ (cxOf (L2N.CX P w) P w K mg base ["poly", "number", "found", "one"] "whole_worth" (defScope st_whole_worth) f cdv A outer s H E) (fun cls d _ H => E cls d H) false (defBody st_whole_worth) D_whole_worth :=
  (b_cons (s_set (i := 2) sc_whole_worth.nd rfl (Or.inl rfl) e_int)
(b_cons (s_for hp_of rfl (i_rev B.n_reversed (by rfl) (e_var (pv 0))) (g_name (pg_name (i := 3) sc_whole_worth.nd rfl (Or.inl rfl)))
(b_cons (s_set (i := 2) sc_whole_worth.nd rfl (Or.inl rfl) (e_add (e_s_t (e_mul (e_varT (pv 2)) (e_varT (pv 1)))) (e_varT (pv 3))))
b_nil))
(b_cons (s_ret (e_var (pv 2)))
b_nil)))
theorem ok_whole_worth (B : Tx K mg) : Okd P w K mg base "whole_worth" ["poly", "number"] 1 2 false F_whole_worth := def_ok B.d_whole_worth sc_whole_worth rfl (fun z => nomatch z) fun f cdv A outer s H E hr => bd_whole_worth B hr
theorem bd_slope_of (B : Tx K mg) {f : Addr} {cdv : Value} {A : Around} {outer : List PySem.Env} {s : Shared} {H : Hp} {E : XK} (hr : Room 3 (A.deeper (envOfC "slope_of" (defScope st_slope_of) s.heap.objs.size f cdv))) :
    BJ (cxOf (L2N.CX P w) P w K mg base ["poly", "k", "number"] "slope_of" (defScope st_slope_of) f cdv A outer s H E) (fun cls d _ H => E cls d H) true (defBody st_slope_of) D_slope_of :=
  (b_cons (s_expr (e_callD (ok_want_poly B) hr (by decide) tk_of (by rfl) (a_cons (e_var (pv 0)) a_nil) (ALen.cons ALen.nil)))
(b_cons (s_retF (e_sliceL (e_f_t (e_lc (own := [("k", 1), ("number", 2)]) rfl sc_slope_of.nd (i_enum B.n_enumerate (by rfl) (e_var (pv 0))) (blkOk_by (own := [("k", 1), ("number", 2)]) (N := ["poly", "k", "number"]) (sc := defScope st_slope_of) (by decide +kernel)) (by decide) (fun _ _ _ _ _ => (g_tup rfl (gs_cons (g_name (pg_name (i := 1) sc_slope_of.nd rfl (Or.inl rfl))) (gs_cons (g_name (pg_name (i := 2) sc_slope_of.nd rfl (Or.inl rfl))) gs_nil)) (gs_len (gs_len gs_len0)))) (fun _ _ _ _ _ => c_nil) (fun _ _ _ _ _ => (e_mul (e_varT (pv 1)) (e_varT (pv 2)))))) (o_some e_int) o_none))
b_nil))
theorem ok_slope_of (B : Tx K mg) : Okd P w K mg base "slope_of" ["poly"] 4 1 true F_slope_of := def_ok B.d_slope_of sc_slope_of rfl (fun _ => (nn_seqR (nn_seqL (nn_ret _)))) fun f cdv A outer s H E hr => bd_slope_of B hr
theorem bd_is_stem (B : Tx K mg) {f : Addr} {cdv : Value} {A : Around} {outer : List PySem.Env} {s : Shared} {H : Hp} {E : XK} (hr : Room 1 (A.deeper (envOfC "is_stem" (defScope st_is_stem) s.heap.objs.size f cdv))) :
    BJ (cxOf (L2N.CX P w) P w K mg base ["p", "thing", "digit"] "is_stem" (defScope st_is_stem) f cdv A outer s H E) (fun cls d _ H => E cls d H) false (defBody st_is_stem) D_is_stem :=
  (b_cons (s_if (t_w (w_or (t_not (t_val (e_isi (n := "tuple") B.n_isinstance (by rfl) (e_varT (pv 1)) (pe_bltn (by rfl) B.n_tuple (by decide +kernel) rfl)))) (w_or (t_lt (e_s_t (e_len B.n_len (by rfl) (a_cons (e_varT (pv 1)) a_nil))) (e_s_t e_int)) (w_or1 (t_gt (e_s_t (e_len B.n_len (by rfl) (a_cons (e_varT (pv 1)) a_nil))) (e_s_t (e_glI B.c_MOST_FIGURES (by rfl))))))))
(b_cons (s_ret e_bl)
b_nil)
b_nil)
(b_cons (s_ret (e_all rfl B.n_all (by rfl) (a_cons (e_f_t (e_lc (own := [("digit", 2)]) rfl sc_is_stem.nd (i_seq (e_var (pv 1))) (blkOk_by (own := [("digit", 2)]) (N := ["p", "thing", "digit"]) (sc := defScope st_is_stem) (by decide +kernel)) (by decide) (fun _ _ _ _ _ => (g_name (pg_name (i := 2) sc_is_stem.nd rfl (Or.inl rfl)))) (fun _ _ _ _ _ => c_nil) (fun _ _ _ _ _ => (e_and (e_callD (ok_is_whole B) hr (by decide) takesN (by rfl) (a_cons (e_var (pv 2)) a_nil) (ALen.cons ALen.nil)) (e_one (e_leLt (e_s_t e_int) (e_varT (pv 2)) (e_varT (pv 0)))))))) a_nil)))
b_nil))
theorem ok_is_stem (B : Tx K mg) : Okd P w K mg base "is_stem" ["p", "thing"] 2 2 false F_is_stem := def_ok B.d_is_stem sc_is_stem rfl (fun z => nomatch z) fun f cdv A outer s H E hr => bd_is_stem B hr
theorem bd_shifted (B : Tx K mg) {f : Addr} {cdv : Value} {A : Around} {outer : List PySem.Env} {s : Shared} {H : Hp} {E : XK} (hr : Room 0 (A.deeper (envOfC "shifted" (defScope st_shifted) s.heap.objs.size f cdv))) :
    BJ (cxOf (L2N.CX P w) P w K mg base ["poly", "number", "found", "first", "k"] "shifted" (defScope st_shifted) f cdv A outer s H E) (fun cls d _ H => E cls d H) true (defBody st_shifted) D_shifted :=
  (b_cons (s_setO (i := 2) sc_shifted.nd rfl (Or.inl rfl) (e_list B.n_list (by rfl) (a_cons (e_varT (pv 0)) a_nil)))
(b_cons (s_for hp_of rfl (i_rng1 B.n_range (by rfl) (a_cons (e_s_t (e_sub (e_s_t (e_len B.n_len (by rfl) (a_cons (e_varT (pv 2)) a_nil))) (e_s_t e_int))) a_nil)) (g_name (pg_name (i := 3) sc_shifted.nd rfl (Or.inl rfl)))
(b_cons (s_for hp_of rfl (i_rng3 B.n_range (by rfl) (a_cons (e_s_t (e_sub (e_s_t (e_len B.n_len (by rfl) (a_cons (e_varT (pv 2)) a_nil))) (e_s_t e_int))) (a_cons (e_s_t (e_sub (e_varT (pv 3)) (e_s_t e_int))) (a_cons (e_s_t (e_neg (e_s_t e_int))) a_nil)))) (g_name (pg_name (i := 4) sc_shifted.nd rfl (Or.inl rfl)))
(b_cons (s_augI (i := 2) (pv 2) (e_var (pv 4)) (e_mul (e_varT (pv 1)) (e_s_t (e_item (e_varT (pv 2)) (e_s_t (e_add (e_varT (pv 4)) (e_s_t e_int))) (fun _ _ => rfl)))))
b_nil))
b_nil))
(b_cons (s_retO (i := 2) (pv 2))
b_nil)))
theorem ok_shifted (B : Tx K mg) : Okd P w K mg base "shifted" ["poly", "number"] 1 2 true F_shifted := def_ok B.d_shifted sc_shifted rfl (fun _ => (nn_seqR (nn_seqR (nn_seqL (nn_retO _))))) fun f cdv A outer s H E hr => bd_shifted B hr
theorem bd_lifted (B : Tx K mg) {f : Addr} {cdv : Value} {A : Around} {outer : List PySem.Env} {s : Shared} {H : Hp} {E : XK} (hr : Room 1 (A.deeper (envOfC "lifted" (defScope st_lifted) s.heap.objs.size f cdv))) :
    BJ (cxOf (L2N.CX P w) P w K mg base ["p", "poly", "lift", "found", "k", "number"] "lifted" (defScope st_lifted) f cdv A outer s H E) (fun cls d _ H => E cls d H) false (defBody st_lifted) D_lifted :=
  (b_cons (s_set (i := 2) sc_lifted.nd rfl (Or.inl rfl) (e_min1 rfl B.n_min (by rfl) (a_cons (e_f_t (e_lc (own := [("number", 5)]) rfl sc_lifted.nd (i_seq (e_var (pv 1))) (blkOk_by (own := [("number", 5)]) (N := ["p", "poly", "lift", "found", "k", "number"]) (sc := defScope st_lifted) (by decide +kernel)) (by decide) (fun _ _ _ _ _ => (g_name (pg_name (i := 5) sc_lifted.nd rfl (Or.inl rfl)))) (fun _ _ _ _ _ => (c_one (t_ne hr.units (e_varT (pv 5)) (e_s_t e_int)))) (fun _ _ _ _ _ => (e_callD (ok_exponent B) hr (by decide) takesN (by rfl) (a_cons (e_var (pv 0)) (a_cons (e_var (pv 5)) a_nil)) (ALen.cons (ALen.cons ALen.nil)))))) a_nil)))
(b_cons (s_set (i := 3) sc_lifted.nd rfl (Or.inl rfl) (e_f_s (e_list B.n_list (by rfl) (a_cons (e_varT (pv 1)) a_nil))))
(b_cons (s_for hp_of rfl (i_rng1 B.n_range (by rfl) (a_cons (e_varT (pv 2)) a_nil)) (g_name (pg_name (i := 4) sc_lifted.nd rfl (Or.inl rfl)))
(b_cons (lcs (i := 3) (own := [("number", 5)]) (q_lc (by decide)) rfl sc_lifted.nd rfl rfl (sw_true rfl rfl rfl (by decide +kernel)) (i_seq (e_var (pv 3))) (blkOk_by (own := [("number", 5)]) (N := ["p", "poly", "lift", "found", "k", "number"]) (sc := defScope st_lifted) (by decide +kernel)) (fun _ _ _ _ _ => (g_name (pg_name (i := 5) sc_lifted.nd rfl (Or.inl rfl)))) (fun _ _ _ _ _ => c_nil) (fun _ _ _ _ _ => (e_fdiv (e_varT (pv 5)) (e_varT (pv 0)))))
b_nil))
(b_cons (s_ret (e_tup (a_cons (e_var (pv 2)) (a_cons (e_var (pv 3)) a_nil))))
b_nil))))
theorem ok_lifted (B : Tx K mg) : Okd P w K mg base "lifted" ["p", "poly"] 2 2 false F_lifted := def_ok B.d_lifted sc_lifted rfl (fun z => nomatch z) fun f cdv A outer s H E hr => bd_lifted B hr
theorem bd_one_on (B : Tx K mg) {f : Addr} {cdv : Value} {A : Around} {outer : List PySem.Env} {s : Shared} {H : Hp} {E : XK} (hr : Room 2 (A.deeper (envOfC "one_on" (defScope st_one_on) s.heap.objs.size f cdv))) :
    BJ (cxOf (L2N.CX P w) P w K mg base ["p", "poly", "digit", "by", "found", "number"] "one_on" (defScope st_one_on) f cdv A outer s H E) (fun cls d _ H => E cls d H) false (defBody st_one_on) D_one_on :=
  (b_cons (s_set (i := 3) sc_one_on.nd rfl (Or.inl rfl) e_int)
(b_cons (s_setO (i := 4) sc_one_on.nd rfl (Or.inl rfl) (e_lst a_nil))
(b_cons (s_for hp_of rfl (i_seq (e_f_s (e_callD (ok_shifted B) hr (by decide) tk_of (by rfl) (a_cons (e_var (pv 1)) (a_cons (e_var (pv 2)) a_nil)) (ALen.cons (ALen.cons ALen.nil))))) (g_name (pg_name (i := 5) sc_one_on.nd rfl (Or.inl rfl)))
(b_cons (s_app (i := 4) (pv 4) (e_mul (e_varT (pv 5)) (e_varT (pv 3))))
(b_cons (s_augMul (i := 3) sc_one_on.nd rfl (Or.inl rfl) (e_varT (pv 0)))
b_nil)))
(s_frz (i := 4) (b_cons (s_ret (e_callD (ok_lifted B) hr (by decide) tk_of (by rfl) (a_cons (e_var (pv 0)) (a_cons (e_var (pv 4)) a_nil)) (ALen.cons (ALen.cons ALen.nil))))
b_nil)))))
theorem ok_one_on (B : Tx K mg) : Okd P w K mg base "one_on" ["p", "poly", "digit"] 3 3 false F_one_on := def_ok B.d_one_on sc_one_on rfl (fun z => nomatch z) fun f cdv A outer s H E hr => bd_one_on B hr
theorem bd_seen_from (B : Tx K mg) {f : Addr} {cdv : Value} {A : Around} {outer : List PySem.Env} {s : Shared} {H : Hp} {E : XK} (hr : Room 3 (A.deeper (envOfC "seen_from" (defScope st_seen_from) s.heap.objs.size f cdv))) :
    BJ (cxOf (L2N.CX P w) P w K mg base ["p", "poly", "stem", "lift", "seen", "digit", "more"] "seen_from" (defScope st_seen_from) f cdv A outer s H E) (fun cls d _ H => E cls d H) false (defBody st_seen_from) D_seen_from :=
  (b_cons (s_to (e_callD (ok_lifted B) hr (by decide) tk_of (by rfl) (a_cons (e_var (pv 0)) (a_cons (e_var (pv 1)) a_nil)) (ALen.cons (ALen.cons ALen.nil))) (g_tup rfl (gs_cons (g_name (pg_name (i := 3) sc_seen_from.nd rfl (Or.inl rfl))) (gs_cons (g_name (pg_name (i := 4) sc_seen_from.nd rfl (Or.inl rfl))) gs_nil)) (gs_len (gs_len gs_len0))))
(b_cons (s_for hp_of rfl (i_seq (e_var (pv 2))) (g_name (pg_name (i := 5) sc_seen_from.nd rfl (Or.inl rfl)))
(b_cons (s_to (e_callD (ok_one_on B) hr (by decide) tk_of (by rfl) (a_cons (e_var (pv 0)) (a_cons (e_var (pv 4)) (a_cons (e_var (pv 5)) a_nil))) (ALen.cons (ALen.cons (ALen.cons ALen.nil)))) (g_tup rfl (gs_cons (g_name (pg_name (i := 6) sc_seen_from.nd rfl (Or.inl rfl))) (gs_cons (g_name (pg_name (i := 4) sc_seen_from.nd rfl (Or.inl rfl))) gs_nil)) (gs_len (gs_len gs_len0))))
(b_cons (s_augAdd (i := 3) sc_seen_from.nd rfl (Or.inl rfl) (e_varT (pv 6)))
b_nil)))
(b_cons (s_ret (e_tup (a_cons (e_var (pv 3)) (a_cons (e_var (pv 4)) a_nil))))
b_nil)))
theorem ok_seen_from (B : Tx K mg) : Okd P w K mg base "seen_from" ["p", "poly", "stem"] 4 3 false F_seen_from := def_ok B.d_seen_from sc_seen_from rfl (fun z => nomatch z) fun f cdv A outer s H E hr => bd_seen_from B hr
theorem bd_word_of (B : Tx K mg) {f : Addr} {cdv : Value} {A : Around} {outer : List PySem.Env} {s : Shared} {H : Hp} {E : XK} (hr : Room 4 (A.deeper (envOfC "word_of" (defScope st_word_of) s.heap.objs.size f cdv))) :
    BJ (cxOf (L2N.CX P w) P w K mg base ["p", "seen", "digit"] "word_of" (defScope st_word_of) f cdv A outer s H E) (fun cls d _ H => E cls d H) false (defBody st_word_of) D_word_of :=
  (b_cons (s_if (t_ne hr.units (e_s_t (e_mod (e_s_t (e_callD (ok_whole_worth B) hr (by decide) tk_of (by rfl) (a_cons (e_var (pv 1)) (a_cons (e_var (pv 2)) a_nil)) (ALen.cons (ALen.cons ALen.nil)))) (e_varT (pv 0)))) (e_s_t e_int))
(b_cons (s_ret e_str)
b_nil)
b_nil)
(b_cons (s_if (t_ne hr.units (e_s_t (e_mod (e_s_t (e_callD (ok_whole_worth B) hr (by decide) tk_of (by rfl) (a_cons (e_f_s (e_callD (ok_slope_of B) hr (by decide) tk_of (by rfl) (a_cons (e_var (pv 1)) a_nil) (ALen.cons ALen.nil))) (a_cons (e_var (pv 2)) a_nil)) (ALen.cons (ALen.cons ALen.nil)))) (e_varT (pv 0)))) (e_s_t e_int))
(b_cons (s_ret e_str)
b_nil)
b_nil)
(b_cons (s_ret e_str)
b_nil)))
theorem ok_word_of (B : Tx K mg) : Okd P w K mg base "word_of" ["p", "seen", "digit"] 5 3 false F_word_of := def_ok B.d_word_of sc_word_of rfl (fun z => nomatch z) fun f cdv A outer s H E hr => bd_word_of B hr
theorem bd_grown (B : Tx K mg) {n : Nat} {G : List PV → R PV} (ih : Okd P w K mg base "grown" ["p", "stem", "depth", "seen", "lift"] (5 + n) 5 true G) {f : Addr} {cdv : Value} {A : Around} {outer : List PySem.Env} {s : Shared} {H : Hp} {E : XK} (hr : Room (5 + n) (A.deeper (envOfC "grown" (defScope st_grown) s.heap.objs.size f cdv))) :
    BJ (cxOf (L2N.CX P w) P w K mg base ["p", "stem", "depth", "seen", "lift", "found", "digit", "longer", "word", "more", "beyond"] "grown" (defScope st_grown) f cdv A outer s H E) (fun cls d _ H => E cls d H) true (defBody st_grown) (D_grown G) :=
  (b_cons (s_setO (i := 5) sc_grown.nd rfl (Or.inl rfl) (e_lst a_nil))
(b_cons (s_for hp_of rfl (i_rng1 B.n_range (by rfl) (a_cons (e_varT (pv 0)) a_nil)) (g_name (pg_name (i := 6) sc_grown.nd rfl (Or.inl rfl)))
(b_cons (s_set (i := 7) sc_grown.nd rfl (Or.inl rfl) (e_add (e_varT (pv 1)) (e_s_t (e_tup (a_cons (e_var (pv 6)) a_nil)))))
(b_cons (s_set (i := 8) sc_grown.nd rfl (Or.inl rfl) (e_callD (ok_word_of B) hr (by omega) tk_of (by rfl) (a_cons (e_var (pv 0)) (a_cons (e_var (pv 3)) (a_cons (e_var (pv 6)) a_nil))) (ALen.cons (ALen.cons (ALen.cons ALen.nil)))))
(b_cons (s_if (t_eq hr.units (e_varT (pv 8)) (e_s_t e_str))
(b_cons (s_app (i := 5) (pv 5) (e_tup (a_cons (e_var (pv 7)) (a_cons e_str (a_cons (e_var (pv 4)) a_nil)))))
b_nil)
(b_cons (s_if (t_eq hr.units (e_varT (pv 8)) (e_s_t e_str))
(b_cons (s_app (i := 5) (pv 5) (e_tup (a_cons (e_var (pv 7)) (a_cons e_str (a_cons (e_sub (e_varT (pv 4)) (e_s_t (e_len B.n_len (by rfl) (a_cons (e_varT (pv 1)) a_nil)))) a_nil)))))
b_nil)
(b_cons (s_to (e_callD (ok_one_on B) hr (by omega) tk_of (by rfl) (a_cons (e_var (pv 0)) (a_cons (e_var (pv 3)) (a_cons (e_var (pv 6)) a_nil))) (ALen.cons (ALen.cons (ALen.cons ALen.nil)))) (g_tup rfl (gs_cons (g_name (pg_name (i := 9) sc_grown.nd rfl (Or.inl rfl))) (gs_cons (g_name (pg_name (i := 10) sc_grown.nd rfl (Or.inl rfl))) gs_nil)) (gs_len (gs_len gs_len0))))
(b_cons (s_if (t_eq hr.units (e_s_t (e_len B.n_len (by rfl) (a_cons (e_varT (pv 7)) a_nil))) (e_varT (pv 2)))
(b_cons (s_app (i := 5) (pv 5) (e_tup (a_cons (e_var (pv 7)) (a_cons e_str (a_cons (e_add (e_varT (pv 4)) (e_varT (pv 9))) a_nil)))))
b_nil)
(b_cons (s_ext (i := 5) (pv 5) (e_f_t (e_callD ih hr (by omega) tk_of (by rfl) (a_cons (e_var (pv 0)) (a_cons (e_var (pv 7)) (a_cons (e_var (pv 2)) (a_cons (e_var (pv 10)) (a_cons (e_add (e_varT (pv 4)) (e_varT (pv 9))) a_nil))))) (ALen.cons (ALen.cons (ALen.cons (ALen.cons (ALen.cons ALen.nil))))))))
b_nil))
b_nil)))
b_nil))
b_nil))))
(b_cons (s_retO (i := 5) (pv 5))
b_nil)))
theorem ok_grown (B : Tx K mg) : ∀ n : Nat, Okd P w K mg base "grown" ["p", "stem", "depth", "seen", "lift"] (5 + n) 5 true (F_grown n)
  | 0 => okd_stuck B.d_grown rfl
  | n + 1 => def_ok B.d_grown sc_grown rfl (fun _ => (nn_seqR (nn_seqR (nn_seqL (nn_retO _))))) fun f cdv A outer s H E hr => bd_grown B (ok_grown B n) hr
theorem bd_tree_of (B : Tx K mg) {f : Addr} {cdv : Value} {A : Around} {outer : List PySem.Env} {s : Shared} {H : Hp} {E : XK} (hr : Room 18 (A.deeper (envOfC "tree_of" (defScope st_tree_of) s.heap.objs.size f cdv))) :
    BJ (cxOf (L2N.CX P w) P w K mg base ["p", "poly", "depth", "lift", "seen"] "tree_of" (defScope st_tree_of) f cdv A outer s H E) (fun cls d _ H => E cls d H) true (defBody st_tree_of) D_tree_of :=
  (b_cons (s_if (t_not (t_val (e_callD (ok_is_prime B) hr (by decide) tk_of (by rfl) (a_cons (e_var (pv 0)) a_nil) (ALen.cons ALen.nil))))
(b_cons (s_raise B.x_NoPrime.choose_spec rfl tk_of (by rfl))
b_nil)
b_nil)
(b_cons (s_expr (e_callD (ok_want_poly B) hr (by decide) tk_of (by rfl) (a_cons (e_var (pv 1)) a_nil) (ALen.cons ALen.nil)))
(b_cons (s_if (t_w (w_or (t_not (t_val (e_callD (ok_is_whole B) hr (by decide) tk_of (by rfl) (a_cons (e_var (pv 2)) a_nil) (ALen.cons ALen.nil)))) (w_or (t_lt (e_varT (pv 2)) (e_s_t e_int)) (w_or1 (t_gt (e_varT (pv 2)) (e_s_t (e_glI B.c_MOST_DEPTH (by rfl))))))))
(b_cons (s_raise B.x_NoDepth.choose_spec rfl tk_of (by rfl))
b_nil)
b_nil)
(b_cons (s_to (e_callD (ok_seen_from B) hr (by decide) tk_of (by rfl) (a_cons (e_var (pv 0)) (a_cons (e_var (pv 1)) (a_cons (e_tup a_nil) a_nil))) (ALen.cons (ALen.cons (ALen.cons ALen.nil)))) (g_tup rfl (gs_cons (g_name (pg_name (i := 3) sc_tree_of.nd rfl (Or.inl rfl))) (gs_cons (g_name (pg_name (i := 4) sc_tree_of.nd rfl (Or.inl rfl))) gs_nil)) (gs_len (gs_len gs_len0))))
(b_cons (s_retF (e_callD (ok_grown B 13) hr (by decide) tk_of (by rfl) (a_cons (e_var (pv 0)) (a_cons (e_tup a_nil) (a_cons (e_var (pv 2)) (a_cons (e_var (pv 4)) (a_cons (e_var (pv 3)) a_nil))))) (ALen.cons (ALen.cons (ALen.cons (ALen.cons (ALen.cons ALen.nil)))))))
b_nil)))))
theorem ok_tree_of (B : Tx K mg) : Okd P w K mg base "tree_of" ["p", "poly", "depth"] 19 3 true F_tree_of := def_ok B.d_tree_of sc_tree_of rfl (fun _ => (nn_seqR (nn_seqR (nn_seqR (nn_seqR (nn_seqL (nn_ret _))))))) fun f cdv A outer s H E hr => bd_tree_of B hr
theorem bd_rise_of (B : Tx K mg) {f : Addr} {cdv : Value} {A : Around} {outer : List PySem.Env} {s : Shared} {H : Hp} {E : XK} (hr : Room 5 (A.deeper (envOfC "rise_of" (defScope st_rise_of) s.heap.objs.size f cdv))) :
    BJ (cxOf (L2N.CX P w) P w K mg base ["p", "poly", "stem", "lift", "seen", "digit", "more"] "rise_of" (defScope st_rise_of) f cdv A outer s H E) (fun cls d _ H => E cls d H) false (defBody st_rise_of) D_rise_of :=
  (b_cons (s_if (t_not (t_val (e_callD (ok_is_stem B) hr (by decide) tk_of (by rfl) (a_cons (e_var (pv 0)) (a_cons (e_var (pv 2)) a_nil)) (ALen.cons (ALen.cons ALen.nil)))))
(b_cons (s_raise B.x_NoRoot.choose_spec rfl tk_of (by rfl))
b_nil)
b_nil)
(b_cons (s_to (e_callD (ok_seen_from B) hr (by decide) tk_of (by rfl) (a_cons (e_var (pv 0)) (a_cons (e_var (pv 1)) (a_cons (e_tup a_nil) a_nil))) (ALen.cons (ALen.cons (ALen.cons ALen.nil)))) (g_tup rfl (gs_cons (g_name (pg_name (i := 3) sc_rise_of.nd rfl (Or.inl rfl))) (gs_cons (g_name (pg_name (i := 4) sc_rise_of.nd rfl (Or.inl rfl))) gs_nil)) (gs_len (gs_len gs_len0))))
(b_cons (s_for hp_of rfl (i_seq (e_slice (e_varT (pv 2)) o_none (o_some (e_neg (e_s_t e_int))))) (g_name (pg_name (i := 5) sc_rise_of.nd rfl (Or.inl rfl)))
(b_cons (s_if (t_ne hr.units (e_s_t (e_callD (ok_word_of B) hr (by decide) tk_of (by rfl) (a_cons (e_var (pv 0)) (a_cons (e_var (pv 4)) (a_cons (e_var (pv 5)) a_nil))) (ALen.cons (ALen.cons (ALen.cons ALen.nil))))) (e_s_t e_str))
(b_cons (s_raise B.x_NoRoot.choose_spec rfl tk_of (by rfl))
b_nil)
b_nil)
(b_cons (s_to (e_callD (ok_one_on B) hr (by decide) tk_of (by rfl) (a_cons (e_var (pv 0)) (a_cons (e_var (pv 4)) (a_cons (e_var (pv 5)) a_nil))) (ALen.cons (ALen.cons (ALen.cons ALen.nil)))) (g_tup rfl (gs_cons (g_name (pg_name (i := 6) sc_rise_of.nd rfl (Or.inl rfl))) (gs_cons (g_name (pg_name (i := 4) sc_rise_of.nd rfl (Or.inl rfl))) gs_nil)) (gs_len (gs_len gs_len0))))
(b_cons (s_augAdd (i := 3) sc_rise_of.nd rfl (Or.inl rfl) (e_varT (pv 6)))
b_nil))))
(b_cons (s_if (t_ne hr.units (e_s_t (e_callD (ok_word_of B) hr (by decide) tk_of (by rfl) (a_cons (e_var (pv 0)) (a_cons (e_var (pv 4)) (a_cons (e_item (e_varT (pv 2)) (e_s_t (e_neg (e_s_t e_int))) (fun _ _ => rfl)) a_nil))) (ALen.cons (ALen.cons (ALen.cons ALen.nil))))) (e_s_t e_str))
(b_cons (s_raise B.x_NoRoot.choose_spec rfl tk_of (by rfl))
b_nil)
b_nil)
(b_cons (s_ret (e_add (e_s_t (e_sub (e_varT (pv 3)) (e_s_t (e_len B.n_len (by rfl) (a_cons (e_varT (pv 2)) a_nil))))) (e_s_t e_int)))
b_nil)))))
theorem ok_rise_of (B : Tx K mg) : Okd P w K mg base "rise_of" ["p", "poly", "stem"] 6 3 false F_rise_of := def_ok B.d_rise_of sc_rise_of rfl (fun z => nomatch z) fun f cdv A outer s H E hr => bd_rise_of B hr
theorem bd_undone (B : Tx K mg) {f : Addr} {cdv : Value} {A : Around} {outer : List PySem.Env} {s : Shared} {H : Hp} {E : XK} (hr : Room 0 (A.deeper (envOfC "undone" (defScope st_undone) s.heap.objs.size f cdv))) :
    BJ (cxOf (L2N.CX P w) P w K mg base ["p", "number", "digit"] "undone" (defScope st_undone) f cdv A outer s H E) (fun cls d _ H => E cls d H) false (defBody st_undone) D_undone :=
  (b_cons (s_for hp_of rfl (i_rng2 B.n_range (by rfl) (a_cons (e_s_t e_int) (a_cons (e_varT (pv 0)) a_nil))) (g_name (pg_name (i := 2) sc_undone.nd rfl (Or.inl rfl)))
(b_cons (s_if (t_eq hr.units (e_s_t (e_mod (e_s_t (e_mul (e_varT (pv 2)) (e_varT (pv 1)))) (e_varT (pv 0)))) (e_s_t e_int))
(b_cons (s_ret (e_var (pv 2)))
b_nil)
b_nil)
b_nil))
(b_cons (s_ret e_int)
b_nil))
theorem ok_undone (B : Tx K mg) : Okd P w K mg base "undone" ["p", "number"] 1 2 false F_undone := def_ok B.d_undone sc_undone rfl (fun z => nomatch z) fun f cdv A outer s H E hr => bd_undone B hr
theorem bd_root_of (B : Tx K mg) {f : Addr} {cdv : Value} {A : Around} {outer : List PySem.Env} {s : Shared} {H : Hp} {E : XK} (hr : Room 6 (A.deeper (envOfC "root_of" (defScope st_root_of) s.heap.objs.size f cdv))) :
    BJ (cxOf (L2N.CX P w) P w K mg base ["p", "poly", "stem", "place", "rise", "root", "by", "digit", "low", "k", "turn"] "root_of" (defScope st_root_of) f cdv A outer s H E) (fun cls d _ H => E cls d H) false (defBody st_root_of) D_root_of :=
  (b_cons (s_if (t_not (t_val (e_callD (ok_is_prime B) hr (by decide) tk_of (by rfl) (a_cons (e_var (pv 0)) a_nil) (ALen.cons ALen.nil))))
(b_cons (s_raise B.x_NoPrime.choose_spec rfl tk_of (by rfl))
b_nil)
b_nil)
(b_cons (s_expr (e_callD (ok_want_poly B) hr (by decide) tk_of (by rfl) (a_cons (e_var (pv 1)) a_nil) (ALen.cons ALen.nil)))
(b_cons (s_set (i := 4) sc_root_of.nd rfl (Or.inl rfl) (e_callD (ok_rise_of B) hr (by decide) tk_of (by rfl) (a_cons (e_var (pv 0)) (a_cons (e_var (pv 1)) (a_cons (e_var (pv 2)) a_nil))) (ALen.cons (ALen.cons (ALen.cons ALen.nil)))))
(b_cons (s_if (t_w (w_or (t_not (t_val (e_callD (ok_is_whole B) hr (by decide) tk_of (by rfl) (a_cons (e_var (pv 3)) a_nil) (ALen.cons ALen.nil)))) (w_or (t_lt (e_varT (pv 3)) (e_s_t (e_len B.n_len (by rfl) (a_cons (e_varT (pv 2)) a_nil)))) (w_or1 (t_gt (e_varT (pv 3)) (e_s_t (e_glI B.c_MOST_END (by rfl))))))))
(b_cons (s_raise B.x_NoPlace.choose_spec rfl tk_of (by rfl))
b_nil)
b_nil)
(b_cons (s_set (i := 5) sc_root_of.nd rfl (Or.inl rfl) e_int)
(b_cons (s_set (i := 6) sc_root_of.nd rfl (Or.inl rfl) e_int)
(b_cons (s_for hp_of rfl (i_seq (e_var (pv 2))) (g_name (pg_name (i := 7) sc_root_of.nd rfl (Or.inl rfl)))
(b_cons (s_augAdd (i := 5) sc_root_of.nd rfl (Or.inl rfl) (e_s_t (e_mul (e_varT (pv 7)) (e_varT (pv 6)))))
(b_cons (s_augMul (i := 6) sc_root_of.nd rfl (Or.inl rfl) (e_varT (pv 0)))
b_nil)))
(b_cons (s_set (i := 8) sc_root_of.nd rfl (Or.inl rfl) e_int)
(b_cons (s_for hp_of rfl (i_rng1 B.n_range (by rfl) (a_cons (e_varT (pv 4)) a_nil)) (g_name (pg_name (i := 9) sc_root_of.nd rfl (Or.inl rfl)))
(b_cons (s_augMul (i := 8) sc_root_of.nd rfl (Or.inl rfl) (e_varT (pv 0)))
b_nil))
(b_cons (s_set (i := 10) sc_root_of.nd rfl (Or.inl rfl) (e_callD (ok_undone B) hr (by decide) tk_of (by rfl) (a_cons (e_var (pv 0)) (a_cons (e_fdiv (e_s_t (e_callD (ok_whole_worth B) hr (by decide) tk_of (by rfl) (a_cons (e_f_s (e_callD (ok_slope_of B) hr (by decide) tk_of (by rfl) (a_cons (e_var (pv 1)) a_nil) (ALen.cons ALen.nil))) (a_cons (e_var (pv 5)) a_nil)) (ALen.cons (ALen.cons ALen.nil)))) (e_varT (pv 8))) a_nil)) (ALen.cons (ALen.cons ALen.nil))))
(b_cons (s_for hp_of rfl (i_rng2 B.n_range (by rfl) (a_cons (e_s_t (e_len B.n_len (by rfl) (a_cons (e_varT (pv 2)) a_nil))) (a_cons (e_varT (pv 3)) a_nil))) (g_name (pg_name (i := 9) sc_root_of.nd rfl (Or.inl rfl)))
(b_cons (s_augAdd (i := 5) sc_root_of.nd rfl (Or.inl rfl) (e_s_t (e_mul (e_s_t (e_mod (e_s_t (e_mul (e_s_t (e_neg (e_s_t (e_fdiv (e_s_t (e_callD (ok_whole_worth B) hr (by decide) tk_of (by rfl) (a_cons (e_var (pv 1)) (a_cons (e_var (pv 5)) a_nil)) (ALen.cons (ALen.cons ALen.nil)))) (e_s_t (e_mul (e_varT (pv 8)) (e_varT (pv 6)))))))) (e_varT (pv 10)))) (e_varT (pv 0)))) (e_varT (pv 6)))))
(b_cons (s_augMul (i := 6) sc_root_of.nd rfl (Or.inl rfl) (e_varT (pv 0)))
b_nil)))
(b_cons (s_ret (e_callD (ok_of_whole B) hr (by decide) tk_of (by rfl) (a_cons (e_var (pv 0)) (a_cons e_int (a_cons (e_var (pv 5)) (a_cons (e_var (pv 3)) a_nil)))) (ALen.cons (ALen.cons (ALen.cons (ALen.cons ALen.nil))))))
b_nil))))))))))))
theorem ok_root_of (B : Tx K mg) : Okd P w K mg base "root_of" ["p", "poly", "stem", "place"] 7 4 false F_root_of := def_ok B.d_root_of sc_root_of rfl (fun z => nomatch z) fun f cdv A outer s H E hr => bd_root_of B hr
theorem bd__law_cell_at (B : Tx K mg) {f : Addr} {cdv : Value} {A : Around} {outer : List PySem.Env} {s : Shared} {H : Hp} {E : XK} (hr : Room 0 (A.deeper (envOfC "_law_cell_at" (defScope st__law_cell_at) s.heap.objs.size f cdv))) :
    BJ (cxOf (L2N.CX P w) P w K mg base ["_law_script", "_law_k"] "_law_cell_at" (defScope st__law_cell_at) f cdv A outer s H E) (fun cls d _ H => E cls d H) false (defBody st__law_cell_at) D__law_cell_at :=
  (b_cons (s_if (t_lt (e_varT (pv 1)) (e_s_t (e_len B.n_len (by rfl) (a_cons (e_varT (pv 0)) a_nil))))
(b_cons (s_ret (e_item (e_varT (pv 0)) (e_varT (pv 1)) (fun _ _ => rfl)))
b_nil)
b_nil)
(b_cons (s_ret e_int)
b_nil))
theorem ok__law_cell_at (B : Tx K mg) : Okd P w K mg base "_law_cell_at" ["_law_script", "_law_k"] 1 2 false F__law_cell_at := def_ok B.d__law_cell_at sc__law_cell_at rfl (fun z => nomatch z) fun f cdv A outer s H E hr => bd__law_cell_at B hr
theorem bd__law_prime (B : Tx K mg) {f : Addr} {cdv : Value} {A : Around} {outer : List PySem.Env} {s : Shared} {H : Hp} {E : XK} (hr : Room 0 (A.deeper (envOfC "_law_prime" (defScope st__law_prime) s.heap.objs.size f cdv))) :
    BJ (cxOf (L2N.CX P w) P w K mg base ["_law_cell"] "_law_prime" (defScope st__law_prime) f cdv A outer s H E) (fun cls d _ H => E cls d H) false (defBody st__law_prime) D__law_prime :=
  (b_cons (s_if (t_eq hr.units (e_s_t (e_mod (e_s_t (e_fdiv (e_varT (pv 0)) (e_s_t e_int))) (e_s_t e_int))) (e_s_t e_int))
(b_cons (s_ret (e_item (e_f_t (e_lst (a_cons e_int (a_cons e_int (a_cons e_int (a_cons e_int (a_cons e_int (a_cons e_int (a_cons e_int (a_cons e_int (a_cons e_int (a_cons e_int (a_cons e_int (a_cons e_int (a_cons e_int (a_cons e_int (a_cons e_int (a_cons e_int (a_cons e_int (a_cons e_int (a_cons e_int (a_cons e_int a_nil)))))))))))))))))))))) (e_s_t (e_mod (e_s_t (e_fdiv (e_varT (pv 0)) (e_s_t e_int))) (e_s_t e_int))) (fun _ _ => rfl)))
b_nil)
b_nil)
(b_cons (s_ret (e_item (e_f_t (e_lst (a_cons e_int (a_cons e_int (a_cons e_int (a_cons e_int (a_cons e_int a_nil))))))) (e_s_t (e_mod (e_varT (pv 0)) (e_s_t e_int))) (fun _ _ => rfl)))
b_nil))
theorem ok__law_prime (B : Tx K mg) : Okd P w K mg base "_law_prime" ["_law_cell"] 1 1 false F__law_prime := def_ok B.d__law_prime sc__law_prime rfl (fun z => nomatch z) fun f cdv A outer s H E hr => bd__law_prime B hr
theorem bd__law_product (B : Tx K mg) {f : Addr} {cdv : Value} {A : Around} {outer : List PySem.Env} {s : Shared} {H : Hp} {E : XK} (hr : Room 0 (A.deeper (envOfC "_law_product" (defScope st__law_product) s.heap.objs.size f cdv))) :
    BJ (cxOf (L2N.CX P w) P w K mg base ["_law_one", "_law_other", "_law_due_here", "_law_k", "_law_m"] "_law_product" (defScope st__law_product) f cdv A outer s H E) (fun cls d _ H => E cls d H) true (defBody st__law_product) D__law_product :=
  (b_cons (lcs (i := 2) (own := [("_law_k", 3)]) (q_lcO (by decide)) rfl sc__law_product.nd rfl rfl (sw_true rfl rfl rfl (by decide +kernel)) (i_rng1 B.n_range (by rfl) (a_cons (e_s_t (e_sub (e_s_t (e_add (e_s_t (e_len B.n_len (by rfl) (a_cons (e_varT (pv 0)) a_nil))) (e_s_t (e_len B.n_len (by rfl) (a_cons (e_varT (pv 1)) a_nil))))) (e_s_t e_int))) a_nil)) (blkOk_by (own := [("_law_k", 3)]) (N := ["_law_one", "_law_other", "_law_due_here", "_law_k", "_law_m"]) (sc := defScope st__law_product) (by decide +kernel)) (fun _ _ _ _ _ => (g_name (pg_name (i := 3) sc__law_product.nd rfl (Or.inl rfl)))) (fun _ _ _ _ _ => c_nil) (fun _ _ _ _ _ => e_int))
(b_cons (s_for hp_of rfl (i_rng1 B.n_range (by rfl) (a_cons (e_s_t (e_len B.n_len (by rfl) (a_cons (e_varT (pv 0)) a_nil))) a_nil)) (g_name (pg_name (i := 3) sc__law_product.nd rfl (Or.inl rfl)))
(b_cons (s_for hp_of rfl (i_rng1 B.n_range (by rfl) (a_cons (e_s_t (e_len B.n_len (by rfl) (a_cons (e_varT (pv 1)) a_nil))) a_nil)) (g_name (pg_name (i := 4) sc__law_product.nd rfl (Or.inl rfl)))
(b_cons (s_setI (i := 2) (pv 2) (e_add (e_s_t (e_item (e_varT (pv 2)) (e_s_t (e_add (e_varT (pv 3)) (e_varT (pv 4)))) (fun _ _ => rfl))) (e_s_t (e_mul (e_s_t (e_item (e_varT (pv 0)) (e_varT (pv 3)) (fun _ _ => rfl))) (e_s_t (e_item (e_varT (pv 1)) (e_varT (pv 4)) (fun _ _ => rfl)))))) (e_add (e_varT (pv 3)) (e_varT (pv 4))))
b_nil))
b_nil))
(b_cons (s_retO (i := 2) (pv 2))
b_nil)))
theorem ok__law_product (B : Tx K mg) : Okd P w K mg base "_law_product" ["_law_one", "_law_other"] 1 2 true F__law_product := def_ok B.d__law_product sc__law_product rfl (fun _ => (nn_seqR (nn_seqR (nn_seqL (nn_retO _))))) fun f cdv A outer s H E hr => bd__law_product B hr
theorem bd__law_factors (B : Tx K mg) {f : Addr} {cdv : Value} {A : Around} {outer : List PySem.Env} {s : Shared} {H : Hp} {E : XK} (hr : Room 0 (A.deeper (envOfC "_law_factors" (defScope st__law_factors) s.heap.objs.size f cdv))) :
    BJ (cxOf (L2N.CX P w) P w K mg base ["_law_cells", "_law_p", "_law_factors_here", "_law_cell", "_law_top", "_law_bottom", "_law_step", "_law_k"] "_law_factors" (defScope st__law_factors) f cdv A outer s H E) (fun cls d _ H => E cls d H) true (defBody st__law_factors) D__law_factors :=
  (b_cons (s_setO (i := 2) sc__law_factors.nd rfl (Or.inl rfl) (e_lst a_nil))
(b_cons (s_for hp_of rfl (i_seq (e_var (pv 0))) (g_name (pg_name (i := 3) sc__law_factors.nd rfl (Or.inl rfl)))
(b_cons (s_set (i := 4) sc__law_factors.nd rfl (Or.inl rfl) (e_sub (e_s_t (e_mod (e_varT (pv 3)) (e_s_t e_int))) (e_s_t e_int)))
(b_cons (s_set (i := 5) sc__law_factors.nd rfl (Or.inl rfl) (e_item (e_f_t (e_lst (a_cons e_int (a_cons e_int (a_cons e_int (a_cons e_int (a_cons e_int (a_cons (e_var (pv 1)) a_nil)))))))) (e_s_t (e_mod (e_s_t (e_fdiv (e_varT (pv 3)) (e_s_t e_int))) (e_s_t e_int))) (fun _ _ => rfl)))
(b_cons (s_if (t_w (w_and (t_eq hr.units (e_s_t (e_mod (e_s_t (e_fdiv (e_varT (pv 3)) (e_s_t e_int))) (e_s_t e_int))) (e_s_t e_int)) (w_and1 (t_ne hr.units (e_varT (pv 2)) (e_f_t (e_lst a_nil))))))
(b_cons (s_set (i := 6) sc__law_factors.nd rfl (Or.inl rfl) (e_var (pv 1)))
(b_cons (s_for hp_of rfl (i_rng1 B.n_range (by rfl) (a_cons (e_s_t (e_mod (e_s_t (e_fdiv (e_varT (pv 3)) (e_s_t e_int))) (e_s_t (e_item (e_f_t (e_lst (a_cons e_int (a_cons e_int a_nil)))) (e_s_t (e_int1 B.n_int (by rfl) (a_cons (e_s_t (e_lt (e_varT (pv 1)) (e_s_t e_int))) a_nil))) (fun _ _ => rfl))))) a_nil)) (g_name (pg_name (i := 7) sc__law_factors.nd rfl (Or.inl rfl)))
(b_cons (s_set (i := 6) sc__law_factors.nd rfl (Or.inl rfl) (e_mul (e_varT (pv 6)) (e_varT (pv 1))))
b_nil))
(b_cons (s_set (i := 4) sc__law_factors.nd rfl (Or.inl rfl) (e_add (e_s_t (e_item (e_s_t (e_item (e_varT (pv 2)) (e_s_t (e_neg (e_s_t e_int))) (fun _ _ => rfl))) (e_s_t e_int) (fun _ _ => rfl))) (e_s_t (e_mul (e_varT (pv 6)) (e_s_t (e_add (e_s_t e_int) (e_s_t (e_mod (e_s_t (e_fdiv (e_varT (pv 3)) (e_s_t e_int))) (e_s_t e_int)))))))))
(b_cons (s_set (i := 5) sc__law_factors.nd rfl (Or.inl rfl) (e_item (e_s_t (e_item (e_varT (pv 2)) (e_s_t (e_neg (e_s_t e_int))) (fun _ _ => rfl))) (e_s_t e_int) (fun _ _ => rfl)))
b_nil))))
b_nil)
(b_cons (s_app (i := 2) (pv 2) (e_tup (a_cons (e_var (pv 4)) (a_cons (e_var (pv 5)) a_nil))))
b_nil)))))
(b_cons (s_retO (i := 2) (pv 2))
b_nil)))
theorem ok__law_factors (B : Tx K mg) : Okd P w K mg base "_law_factors" ["_law_cells", "_law_p"] 1 2 true F__law_factors := def_ok B.d__law_factors sc__law_factors rfl (fun _ => (nn_seqR (nn_seqR (nn_seqL (nn_retO _))))) fun f cdv A outer s H E hr => bd__law_factors B hr
theorem bd__law_poly (B : Tx K mg) {f : Addr} {cdv : Value} {A : Around} {outer : List PySem.Env} {s : Shared} {H : Hp} {E : XK} (hr : Room 1 (A.deeper (envOfC "_law_poly" (defScope st__law_poly) s.heap.objs.size f cdv))) :
    BJ (cxOf (L2N.CX P w) P w K mg base ["_law_cells", "_law_p", "_law_poly_here", "_law_cell", "_law_by", "_law_top", "_law_bottom"] "_law_poly" (defScope st__law_poly) f cdv A outer s H E) (fun cls d _ H => E cls d H) false (defBody st__law_poly) D__law_poly :=
  (b_cons (s_if (t_eq hr.units (e_s_t (e_mod (e_s_t (e_item (e_varT (pv 0)) (e_s_t e_int) (fun _ _ => rfl))) (e_s_t e_int))) (e_s_t e_int))
(b_cons (s_setO (i := 2) sc__law_poly.nd rfl (Or.inl rfl) (e_lst a_nil))
(b_cons (s_for hp_of rfl (i_seq (e_slice (e_varT (pv 0)) (o_some e_int) o_none)) (g_name (pg_name (i := 3) sc__law_poly.nd rfl (Or.inl rfl)))
(b_cons (s_set (i := 4) sc__law_poly.nd rfl (Or.inl rfl) (e_item (e_f_t (e_lst (a_cons e_int (a_cons e_int (a_cons (e_var (pv 1)) (a_cons (e_mul (e_varT (pv 1)) (e_varT (pv 1))) (a_cons (e_add (e_s_t (e_pow (e_s_t e_int) (e_s_t e_int))) (e_s_t (e_mod (e_varT (pv 3)) (e_s_t (e_pow (e_s_t e_int) (e_s_t e_int)))))) a_nil))))))) (e_s_t (e_mod (e_varT (pv 3)) (e_s_t e_int))) (fun _ _ => rfl)))
(b_cons (s_app (i := 2) (pv 2) (e_mul (e_s_t (e_sub (e_s_t (e_mod (e_s_t (e_fdiv (e_varT (pv 3)) (e_s_t e_int))) (e_s_t e_int))) (e_s_t e_int))) (e_varT (pv 4))))
b_nil)))
(b_cons (s_ret (e_add (e_s_t (e_slice (e_varT (pv 2)) o_none (o_some (e_neg (e_s_t e_int))))) (e_f_t (e_lst (a_cons (e_add (e_s_t (e_item (e_varT (pv 2)) (e_s_t (e_neg (e_s_t e_int))) (fun _ _ => rfl))) (e_s_t (e_int1 B.n_int (by rfl) (a_cons (e_s_t (e_eq hr.units (e_s_t (e_item (e_varT (pv 2)) (e_s_t (e_neg (e_s_t e_int))) (fun _ _ => rfl))) (e_s_t e_int))) a_nil)))) a_nil)))))
b_nil)))
b_nil)
(b_cons (s_setO (i := 2) sc__law_poly.nd rfl (Or.inl rfl) (e_lst (a_cons (e_item (e_f_t (e_lst (a_cons e_int (a_cons e_int (a_cons e_int (a_cons (e_var (pv 1)) a_nil)))))) (e_s_t (e_mod (e_s_t (e_fdiv (e_s_t (e_item (e_varT (pv 0)) (e_s_t e_int) (fun _ _ => rfl))) (e_s_t e_int))) (e_s_t e_int))) (fun _ _ => rfl)) a_nil)))
(b_cons (s_for hp_of rfl (i_seq (e_f_s (e_callD (ok__law_factors B) hr (by decide) tk_of (by rfl) (a_cons (e_slice (e_varT (pv 0)) (o_some e_int) o_none) (a_cons (e_var (pv 1)) a_nil)) (ALen.cons (ALen.cons ALen.nil))))) (g_tup rfl (gs_cons (g_name (pg_name (i := 5) sc__law_poly.nd rfl (Or.inl rfl))) (gs_cons (g_name (pg_name (i := 6) sc__law_poly.nd rfl (Or.inl rfl))) gs_nil)) (gs_len (gs_len gs_len0)))
(b_cons (s_setO (i := 2) sc__law_poly.nd rfl (Or.inl rfl) (e_lend (ok__law_product B) hr (by decide) tk_of (by rfl) (a_cons (e_varW (pv 2)) (a_cons (e_s_w (e_f_s (e_lst (a_cons (e_sub (e_s_t e_int) (e_varT (pv 5))) (a_cons (e_var (pv 6)) a_nil))))) a_nil)) (ALen.cons (ALen.cons ALen.nil))))
b_nil))
(b_cons (s_if (t_eq hr.units (e_s_t (e_mod (e_s_t (e_fdiv (e_s_t (e_item (e_varT (pv 0)) (e_s_t e_int) (fun _ _ => rfl))) (e_s_t e_int))) (e_s_t e_int))) (e_s_t e_int))
(b_cons (s_setI (i := 2) (pv 2) (e_add (e_s_t (e_item (e_varT (pv 2)) (e_s_t e_int) (fun _ _ => rfl))) (e_s_t (e_mul (e_s_t (e_mul (e_varT (pv 1)) (e_varT (pv 1)))) (e_s_t (e_mod (e_s_t (e_fdiv (e_s_t (e_item (e_varT (pv 0)) (e_s_t e_int) (fun _ _ => rfl))) (e_s_t e_int))) (e_s_t e_int)))))) e_int)
b_nil)
b_nil)
(b_cons (s_retO (i := 2) (pv 2))
b_nil)))))
theorem ok__law_poly (B : Tx K mg) : Okd P w K mg base "_law_poly" ["_law_cells", "_law_p"] 2 2 false F__law_poly := def_ok B.d__law_poly sc__law_poly rfl (fun z => nomatch z) fun f cdv A outer s H E hr => bd__law_poly B hr
theorem bd__law_asked (B : Tx K mg) {f : Addr} {cdv : Value} {A : Around} {outer : List PySem.Env} {s : Shared} {H : Hp} {E : XK} (hr : Room 2 (A.deeper (envOfC "_law_asked" (defScope st__law_asked) s.heap.objs.size f cdv))) :
    BJ (cxOf (L2N.CX P w) P w K mg base ["_law_script", "_law_first", "_law_p", "_law_many", "_law_poly_here", "_law_depth", "_law_k"] "_law_asked" (defScope st__law_asked) f cdv A outer s H E) (fun cls d _ H => E cls d H) false (defBody st__law_asked) D__law_asked :=
  (b_cons (s_set (i := 1) sc__law_asked.nd rfl (Or.inl rfl) (e_callD (ok__law_cell_at B) hr (by decide) tk_of (by rfl) (a_cons (e_var (pv 0)) (a_cons e_int a_nil)) (ALen.cons (ALen.cons ALen.nil))))
(b_cons (s_set (i := 2) sc__law_asked.nd rfl (Or.inl rfl) (e_callD (ok__law_prime B) hr (by decide) tk_of (by rfl) (a_cons (e_var (pv 1)) a_nil) (ALen.cons ALen.nil)))
(b_cons (s_set (i := 3) sc__law_asked.nd rfl (Or.inl rfl) (e_add (e_s_t e_int) (e_s_t (e_mod (e_s_t (e_callD (ok__law_cell_at B) hr (by decide) tk_of (by rfl) (a_cons (e_var (pv 0)) (a_cons e_int a_nil)) (ALen.cons (ALen.cons ALen.nil)))) (e_s_t e_int)))))
(b_cons (s_if (t_eq hr.units (e_s_t (e_mod (e_s_t (e_fdiv (e_s_t (e_callD (ok__law_cell_at B) hr (by decide) tk_of (by rfl) (a_cons (e_var (pv 0)) (a_cons e_int a_nil)) (ALen.cons (ALen.cons ALen.nil)))) (e_s_t e_int))) (e_s_t e_int))) (e_s_t e_int))
(b_cons (s_set (i := 3) sc__law_asked.nd rfl (Or.inl rfl) (e_add (e_s_t e_int) (e_s_t (e_mod (e_s_t (e_fdiv (e_s_t (e_callD (ok__law_cell_at B) hr (by decide) tk_of (by rfl) (a_cons (e_var (pv 0)) (a_cons e_int a_nil)) (ALen.cons (ALen.cons ALen.nil)))) (e_s_t e_int))) (e_s_t e_int)))))
b_nil)
b_nil)
(b_cons (s_set (i := 4) sc__law_asked.nd rfl (Or.inl rfl) (e_callD (ok__law_poly B) hr (by decide) tk_of (by rfl) (a_cons (e_f_s (e_lc (own := [("_law_k", 6)]) rfl sc__law_asked.nd (i_rng1 B.n_range (by rfl) (a_cons (e_s_t (e_add (e_s_t e_int) (e_varT (pv 3)))) a_nil)) (blkOk_by (own := [("_law_k", 6)]) (N := ["_law_script", "_law_first", "_law_p", "_law_many", "_law_poly_here", "_law_depth", "_law_k"]) (sc := defScope st__law_asked) (by decide +kernel)) (by decide) (fun _ _ _ _ _ => (g_name (pg_name (i := 6) sc__law_asked.nd rfl (Or.inl rfl)))) (fun _ _ _ _ _ => c_nil) (fun _ _ _ _ _ => (e_fdiv (e_s_t (e_callD (ok__law_cell_at B) hr (by decide) takesN (by rfl) (a_cons (e_var (pv 0)) (a_cons (e_add (e_s_t e_int) (e_varT (pv 6))) a_nil)) (ALen.cons (ALen.cons ALen.nil)))) (e_s_t (e_item (e_f_t (e_lst (a_cons e_int (a_cons e_int a_nil)))) (e_s_t (e_int1 B.n_int (by rfl) (a_cons (e_s_t (e_gt (e_varT (pv 6)) (e_s_t e_int))) a_nil))) (fun _ _ => rfl))))))) (a_cons (e_var (pv 2)) a_nil)) (ALen.cons (ALen.cons ALen.nil))))
(b_cons (s_set (i := 5) sc__law_asked.nd rfl (Or.inl rfl) (e_add (e_s_t e_int) (e_s_t (e_mod (e_s_t (e_fdiv (e_varT (pv 1)) (e_s_t e_int))) (e_s_t (e_item (e_f_t (e_lst (a_cons e_int (a_cons e_int a_nil)))) (e_s_t (e_int1 B.n_int (by rfl) (a_cons (e_s_t (e_gt (e_varT (pv 2)) (e_s_t e_int))) a_nil))) (fun _ _ => rfl)))))))
(b_cons (s_if (t_w (w_or (t_eq hr.units (e_s_t (e_mod (e_s_t (e_fdiv (e_varT (pv 1)) (e_s_t e_int))) (e_s_t e_int))) (e_s_t e_int)) (w_or1 (t_w (w_and (t_gt (e_varT (pv 2)) (e_s_t e_int)) (w_and1 (t_eq hr.units (e_s_t (e_mod (e_s_t (e_fdiv (e_varT (pv 1)) (e_s_t e_int))) (e_s_t e_int))) (e_s_t e_int))))))))
(b_cons (s_set (i := 5) sc__law_asked.nd rfl (Or.inl rfl) e_int)
b_nil)
b_nil)
(b_cons (s_ret (e_tup (a_cons (e_var (pv 2)) (a_cons (e_var (pv 4)) (a_cons (e_var (pv 5)) a_nil)))))
b_nil))))))))
theorem ok__law_asked (B : Tx K mg) : Okd P w K mg base "_law_asked" ["_law_script"] 3 1 false F__law_asked := def_ok B.d__law_asked sc__law_asked rfl (fun z => nomatch z) fun f cdv A outer s H E hr => bd__law_asked B hr
theorem bd__law_no_prime (B : Tx K mg) {f : Addr} {cdv : Value} {A : Around} {outer : List PySem.Env} {s : Shared} {H : Hp} {E : XK} (hr : Room 0 (A.deeper (envOfC "_law_no_prime" (defScope st__law_no_prime) s.heap.objs.size f cdv))) :
    BJ (cxOf (L2N.CX P w) P w K mg base ["_law_cell", "_law_far"] "_law_no_prime" (defScope st__law_no_prime) f cdv A outer s H E) (fun cls d _ H => E cls d H) false (defBody st__law_no_prime) D__law_no_prime :=
  (b_cons (s_set (i := 1) sc__law_no_prime.nd rfl (Or.inl rfl) (e_mod (e_s_t (e_fdiv (e_varT (pv 0)) (e_s_t e_int))) (e_s_t (e_pow (e_s_t e_int) (e_s_t e_int)))))
(b_cons (s_ret (e_item (e_f_t (e_lst (a_cons e_int (a_cons (e_add (e_s_t e_int) (e_varT (pv 1))) (a_cons e_int (a_cons (e_sub (e_s_t (e_neg (e_s_t e_int))) (e_varT (pv 1))) (a_cons e_bl (a_cons e_non (a_cons e_str (a_cons (e_tup (a_cons e_int a_nil)) (a_cons e_int a_nil))))))))))) (e_s_t (e_mod (e_varT (pv 0)) (e_s_t e_int))) (fun _ _ => rfl)))
b_nil))
theorem ok__law_no_prime (B : Tx K mg) : Okd P w K mg base "_law_no_prime" ["_law_cell"] 1 1 false F__law_no_prime := def_ok B.d__law_no_prime sc__law_no_prime rfl (fun z => nomatch z) fun f cdv A outer s H E hr => bd__law_no_prime B hr
theorem bd__law_no_poly (B : Tx K mg) {f : Addr} {cdv : Value} {A : Around} {outer : List PySem.Env} {s : Shared} {H : Hp} {E : XK} (hr : Room 0 (A.deeper (envOfC "_law_no_poly" (defScope st__law_no_poly) s.heap.objs.size f cdv))) :
    BJ (cxOf (L2N.CX P w) P w K mg base ["_law_cell", "_law_far"] "_law_no_poly" (defScope st__law_no_poly) f cdv A outer s H E) (fun cls d _ H => E cls d H) false (defBody st__law_no_poly) D__law_no_poly :=
  (b_cons (s_set (i := 1) sc__law_no_poly.nd rfl (Or.inl rfl) (e_mod (e_s_t (e_fdiv (e_varT (pv 0)) (e_s_t e_int))) (e_s_t (e_pow (e_s_t e_int) (e_s_t e_int)))))
(b_cons (s_ret (e_item (e_f_t (e_lst (a_cons (e_tup (a_cons (e_var (pv 1)) (a_cons e_int a_nil))) (a_cons e_non (a_cons (e_f_s (e_lst (a_cons (e_add (e_s_t e_int) (e_varT (pv 1))) a_nil))) (a_cons (e_f_s (e_lst (a_cons (e_var (pv 1)) (a_cons e_int a_nil)))) (a_cons (e_f_s (e_repL (e_f_t (e_lst (a_cons e_int a_nil))) (e_s_t e_int))) (a_cons (e_f_s (e_lst (a_cons (e_var (pv 1)) (a_cons e_bl a_nil)))) (a_cons (e_f_s (e_lst (a_cons (e_var (pv 1)) (a_cons e_non (a_cons e_int a_nil))))) (a_cons e_str (a_cons (e_var (pv 1)) a_nil))))))))))) (e_s_t (e_mod (e_varT (pv 0)) (e_s_t e_int))) (fun _ _ => rfl)))
b_nil))
theorem ok__law_no_poly (B : Tx K mg) : Okd P w K mg base "_law_no_poly" ["_law_cell"] 1 1 false F__law_no_poly := def_ok B.d__law_no_poly sc__law_no_poly rfl (fun z => nomatch z) fun f cdv A outer s H E hr => bd__law_no_poly B hr
theorem bd__law_no_depth (B : Tx K mg) {f : Addr} {cdv : Value} {A : Around} {outer : List PySem.Env} {s : Shared} {H : Hp} {E : XK} (hr : Room 0 (A.deeper (envOfC "_law_no_depth" (defScope st__law_no_depth) s.heap.objs.size f cdv))) :
    BJ (cxOf (L2N.CX P w) P w K mg base ["_law_cell"] "_law_no_depth" (defScope st__law_no_depth) f cdv A outer s H E) (fun cls d _ H => E cls d H) false (defBody st__law_no_depth) D__law_no_depth :=
  (b_cons (s_ret (e_item (e_f_t (e_lst (a_cons e_int (a_cons (e_add (e_s_t e_int) (e_s_t (e_mod (e_s_t (e_fdiv (e_varT (pv 0)) (e_s_t e_int))) (e_s_t (e_pow (e_s_t e_int) (e_s_t e_int)))))) (a_cons (e_sub (e_s_t (e_neg (e_s_t e_int))) (e_s_t (e_mod (e_s_t (e_fdiv (e_varT (pv 0)) (e_s_t e_int))) (e_s_t (e_pow (e_s_t e_int) (e_s_t e_int)))))) (a_cons e_bl (a_cons e_non (a_cons e_str (a_cons (e_f_s (e_lst (a_cons e_int a_nil))) a_nil))))))))) (e_s_t (e_mod (e_varT (pv 0)) (e_s_t e_int))) (fun _ _ => rfl)))
b_nil)
theorem ok__law_no_depth (B : Tx K mg) : Okd P w K mg base "_law_no_depth" ["_law_cell"] 1 1 false F__law_no_depth := def_ok B.d__law_no_depth sc__law_no_depth rfl (fun z => nomatch z) fun f cdv A outer s H E hr => bd__law_no_depth B hr
theorem bd__law_no_stem (B : Tx K mg) {f : Addr} {cdv : Value} {A : Around} {outer : List PySem.Env} {s : Shared} {H : Hp} {E : XK} (hr : Room 0 (A.deeper (envOfC "_law_no_stem" (defScope st__law_no_stem) s.heap.objs.size f cdv))) :
    BJ (cxOf (L2N.CX P w) P w K mg base ["_law_cell", "_law_rows", "_law_p", "_law_stem", "_law_closed", "_law_some", "_law_row"] "_law_no_stem" (defScope st__law_no_stem) f cdv A outer s H E) (fun cls d _ H => E cls d H) false (defBody st__law_no_stem) D__law_no_stem :=
  (b_cons (s_set (i := 3) sc__law_no_stem.nd rfl (Or.inl rfl) (e_tup a_nil))
(b_cons (lcs (i := 4) (own := [("_law_row", 6)]) (q_lc (by decide)) rfl sc__law_no_stem.nd rfl rfl (sw_true rfl rfl rfl (by decide +kernel)) (i_seq (e_var (pv 1))) (blkOk_by (own := [("_law_row", 6)]) (N := ["_law_cell", "_law_rows", "_law_p", "_law_stem", "_law_closed", "_law_some", "_law_row"]) (sc := defScope st__law_no_stem) (by decide +kernel)) (fun _ _ _ _ _ => (g_name (pg_name (i := 6) sc__law_no_stem.nd rfl (Or.inl rfl)))) (fun _ _ _ _ _ => (c_one (t_ne hr.units (e_s_t (e_item (e_varT (pv 6)) (e_s_t e_int) (fun _ _ => rfl))) (e_s_t e_str)))) (fun _ _ _ _ _ => (e_item (e_varT (pv 6)) (e_s_t e_int) (fun _ _ => rfl))))
(b_cons (s_if (t_ne hr.units (e_varT (pv 4)) (e_f_t (e_lst a_nil)))
(b_cons (s_set (i := 3) sc__law_no_stem.nd rfl (Or.inl rfl) (e_item (e_varT (pv 4)) (e_s_t (e_mod (e_s_t (e_fdiv (e_varT (pv 0)) (e_s_t e_int))) (e_s_t (e_len B.n_len (by rfl) (a_cons (e_varT (pv 4)) a_nil))))) (fun _ _ => rfl)))
b_nil)
b_nil)
(b_cons (s_set (i := 5) sc__law_no_stem.nd rfl (Or.inl rfl) (e_f_s (e_lst (a_cons (e_tup a_nil) (a_cons (e_f_s (e_list B.n_list (by rfl) (a_cons (e_varT (pv 3)) a_nil))) (a_cons (e_add (e_varT (pv 3)) (e_s_t (e_tup (a_cons (e_var (pv 2)) a_nil)))) (a_cons (e_add (e_s_t (e_tup (a_cons (e_neg (e_s_t e_int)) a_nil))) (e_varT (pv 3))) (a_cons (e_add (e_varT (pv 3)) (e_s_t (e_tup (a_cons e_int a_nil)))) (a_cons (e_add (e_s_t (e_tup (a_cons e_bl a_nil))) (e_s_t (e_slice (e_varT (pv 3)) (o_some e_int) o_none))) (a_cons (e_repT (e_s_t (e_tup (a_cons e_int a_nil))) (e_s_t e_int)) (a_cons e_non a_nil)))))))))))
(b_cons (s_ret (e_item (e_varT (pv 5)) (e_s_t (e_mod (e_varT (pv 0)) (e_s_t e_int))) (fun _ _ => rfl)))
b_nil)))))
theorem ok__law_no_stem (B : Tx K mg) : Okd P w K mg base "_law_no_stem" ["_law_cell", "_law_rows", "_law_p"] 1 3 false F__law_no_stem := def_ok B.d__law_no_stem sc__law_no_stem rfl (fun z => nomatch z) fun f cdv A outer s H E hr => bd__law_no_stem B hr
theorem bd__law_no_end (B : Tx K mg) {f : Addr} {cdv : Value} {A : Around} {outer : List PySem.Env} {s : Shared} {H : Hp} {E : XK} (hr : Room 0 (A.deeper (envOfC "_law_no_end" (defScope st__law_no_end) s.heap.objs.size f cdv))) :
    BJ (cxOf (L2N.CX P w) P w K mg base ["_law_cell", "_law_length"] "_law_no_end" (defScope st__law_no_end) f cdv A outer s H E) (fun cls d _ H => E cls d H) false (defBody st__law_no_end) D__law_no_end :=
  (b_cons (s_ret (e_item (e_f_t (e_lst (a_cons (e_sub (e_varT (pv 1)) (e_s_t e_int)) (a_cons (e_add (e_s_t e_int) (e_s_t (e_mod (e_s_t (e_fdiv (e_varT (pv 0)) (e_s_t e_int))) (e_s_t (e_pow (e_s_t e_int) (e_s_t e_int)))))) (a_cons (e_neg (e_s_t e_int)) (a_cons e_bl (a_cons e_non (a_cons e_str (a_cons (e_tup (a_cons e_int a_nil)) a_nil))))))))) (e_s_t (e_mod (e_varT (pv 0)) (e_s_t e_int))) (fun _ _ => rfl)))
b_nil)
theorem ok__law_no_end (B : Tx K mg) : Okd P w K mg base "_law_no_end" ["_law_cell", "_law_length"] 1 2 false F__law_no_end := def_ok B.d__law_no_end sc__law_no_end rfl (fun z => nomatch z) fun f cdv A outer s H E hr => bd__law_no_end B hr
theorem bd__law_word (B : Tx K mg) {f : Addr} {cdv : Value} {A : Around} {outer : List PySem.Env} {s : Shared} {H : Hp} {E : XK} (hr : Room 19 (A.deeper (envOfC "_law_word" (defScope st__law_word) s.heap.objs.size f cdv))) :
    BJ (cxOf (L2N.CX P w) P w K mg base ["_law_way", "_law_p", "_law_poly_here", "_law_third", "_law_place", "_law_told", "e", "_law_others"] "_law_word" (defScope st__law_word) f cdv A outer s H E) (fun cls d _ H => E cls d H) true (defBody st__law_word) D__law_word :=
  (b_cons (s_setO (i := 5) sc__law_word.nd rfl (Or.inl rfl) (e_lst a_nil))
(b_cons (s_try (i := 6) rfl rfl sc__law_word.nd rfl rfl ⟨by rfl, by decide, .inl B.u_LeftError.choose_spec⟩ tk_of (fun c hc C h => B.ke c hc C _ h B.u_LeftError.choose_spec) (fun W pn xe tk hp => (b_cons (s_if (t_eq hr.units (e_varT (pv 0)) (e_s_t e_int))
(b_cons (s_expr (e_callD (ok_tree_of B) hr (by decide) tk (by rfl) (a_cons (e_var (pv 1)) (a_cons (e_var (pv 2)) (a_cons (e_var (pv 3)) a_nil))) (ALen.cons (ALen.cons (ALen.cons ALen.nil)))))
b_nil)
(b_cons (s_expr (e_callD (ok_root_of B) hr (by decide) tk (by rfl) (a_cons (e_var (pv 1)) (a_cons (e_var (pv 2)) (a_cons (e_var (pv 3)) (a_cons (e_var (pv 4)) a_nil)))) (ALen.cons (ALen.cons (ALen.cons (ALen.cons ALen.nil))))))
b_nil))
b_nil)) (fun p pn c C hc hP hot => (b_cons (s_setO (i := 5) sc__law_word.nd rfl (Or.inl rfl) (e_lst (a_cons (e_isX ⟨p.2, C, List.mem_cons_self, hP⟩ B.n_isinstance (by rfl) (pv 6) (ClsN.own (by rfl) B.u_NoPrime.choose_spec (by decide)) (fun C h => B.kq _ hc "NoPrime" (by decide) C _ h B.u_NoPrime.choose_spec)) (a_cons (e_isX ⟨p.2, C, List.mem_cons_self, hP⟩ B.n_isinstance (by rfl) (pv 6) (ClsN.own (by rfl) B.u_NoPolynomial.choose_spec (by decide)) (fun C h => B.kq _ hc "NoPolynomial" (by decide) C _ h B.u_NoPolynomial.choose_spec)) (a_cons (e_isX ⟨p.2, C, List.mem_cons_self, hP⟩ B.n_isinstance (by rfl) (pv 6) (ClsN.own (by rfl) B.u_NoDepth.choose_spec (by decide)) (fun C h => B.kq _ hc "NoDepth" (by decide) C _ h B.u_NoDepth.choose_spec)) (a_cons (e_isX ⟨p.2, C, List.mem_cons_self, hP⟩ B.n_isinstance (by rfl) (pv 6) (ClsN.own (by rfl) B.u_NoRoot.choose_spec (by decide)) (fun C h => B.kq _ hc "NoRoot" (by decide) C _ h B.u_NoRoot.choose_spec)) a_nil))))))
(b_cons (s_app (i := 5) (pv 5) (e_isX ⟨p.2, C, List.mem_cons_self, hP⟩ B.n_isinstance (by rfl) (pv 6) (ClsN.own (by rfl) B.u_NoPlace.choose_spec (by decide)) (fun C h => B.kq _ hc "NoPlace" (by decide) C _ h B.u_NoPlace.choose_spec)))
(b_cons (s_set (i := 7) sc__law_word.nd rfl (Or.inl rfl) (e_isXT (ds := ["NoFigures", "NoFraction", "NoText", "Unlike", "NoQuotient"]) ⟨p.2, C, List.mem_cons_self, hP⟩ B.n_isinstance (by rfl) (pv 6) (ClsL.cons (ClsN.own (by rfl) B.u_NoFigures.choose_spec (by decide)) (ClsL.cons (ClsN.own (by rfl) B.u_NoFraction.choose_spec (by decide)) (ClsL.cons (ClsN.own (by rfl) B.u_NoText.choose_spec (by decide)) (ClsL.cons (ClsN.own (by rfl) B.u_Unlike.choose_spec (by decide)) (ClsL.cons (ClsN.own (by rfl) B.u_NoQuotient.choose_spec (by decide)) ClsL.nil (by rfl)) (by rfl)) (by rfl)) (by rfl)) (by rfl)) (by decide) (fun C h => (.cons ((fun C h => B.kq _ hc "NoFigures" (by decide) C _ h B.u_NoFigures.choose_spec) C h) (.cons ((fun C h => B.kq _ hc "NoFraction" (by decide) C _ h B.u_NoFraction.choose_spec) C h) (.cons ((fun C h => B.kq _ hc "NoText" (by decide) C _ h B.u_NoText.choose_spec) C h) (.cons ((fun C h => B.kq _ hc "Unlike" (by decide) C _ h B.u_Unlike.choose_spec) C h) (.cons ((fun C h => B.kq _ hc "NoQuotient" (by decide) C _ h B.u_NoQuotient.choose_spec) C h) .nil))))))))
(b_cons (s_app (i := 5) (pv 5) (e_or (e_var (pv 7)) (e_one (e_isXT (ds := ["NoPower", "TooFew", "NoSize", "NotNear"]) ⟨p.2, C, List.mem_cons_self, hP⟩ B.n_isinstance (by rfl) (pv 6) (ClsL.cons (ClsN.own (by rfl) B.u_NoPower.choose_spec (by decide)) (ClsL.cons (ClsN.own (by rfl) B.u_TooFew.choose_spec (by decide)) (ClsL.cons (ClsN.own (by rfl) B.u_NoSize.choose_spec (by decide)) (ClsL.cons (ClsN.own (by rfl) B.u_NotNear.choose_spec (by decide)) ClsL.nil (by rfl)) (by rfl)) (by rfl)) (by rfl)) (by decide) (fun C h => (.cons ((fun C h => B.kq _ hc "NoPower" (by decide) C _ h B.u_NoPower.choose_spec) C h) (.cons ((fun C h => B.kq _ hc "TooFew" (by decide) C _ h B.u_TooFew.choose_spec) C h) (.cons ((fun C h => B.kq _ hc "NoSize" (by decide) C _ h B.u_NoSize.choose_spec) C h) (.cons ((fun C h => B.kq _ hc "NotNear" (by decide) C _ h B.u_NotNear.choose_spec) C h) .nil)))))))))
(b_cons (s_app (i := 5) (pv 5) (e_not (e_isX ⟨p.2, C, List.mem_cons_self, hP⟩ B.n_isinstance (by rfl) (pv 6) (ClsN.ty (pe_bltn (by rfl) B.n_ValueError (by decide +kernel) rfl)) (fun C h => B.kv _ hc C h))))
b_nil)))))))
(b_cons (s_retO (i := 5) (pv 5))
b_nil)))
theorem ok__law_word (B : Tx K mg) : Okd P w K mg base "_law_word" ["_law_way", "_law_p", "_law_poly_here", "_law_third", "_law_place"] 20 5 true F__law_word := def_ok B.d__law_word sc__law_word rfl (fun _ => (nn_seqR (nn_seqR (nn_seqL (nn_retO _))))) fun f cdv A outer s H E hr => bd__law_word B hr
theorem bd__law_due (B : Tx K mg) {f : Addr} {cdv : Value} {A : Around} {outer : List PySem.Env} {s : Shared} {H : Hp} {E : XK} (hr : Room 0 (A.deeper (envOfC "_law_due" (defScope st__law_due) s.heap.objs.size f cdv))) :
    BJ (cxOf (L2N.CX P w) P w K mg base ["_law_number", "_law_k"] "_law_due" (defScope st__law_due) f cdv A outer s H E) (fun cls d _ H => E cls d H) true (defBody st__law_due) D__law_due :=
  (b_cons (s_retF (e_lc (own := [("_law_k", 1)]) rfl sc__law_due.nd (i_rng1 B.n_range (by rfl) (a_cons (e_s_t e_int) a_nil)) (blkOk_by (own := [("_law_k", 1)]) (N := ["_law_number", "_law_k"]) (sc := defScope st__law_due) (by decide +kernel)) (by decide) (fun _ _ _ _ _ => (g_name (pg_name (i := 1) sc__law_due.nd rfl (Or.inl rfl)))) (fun _ _ _ _ _ => c_nil) (fun _ _ _ _ _ => (e_eq hr.units (e_varT (pv 1)) (e_varT (pv 0))))))
b_nil)
theorem ok__law_due (B : Tx K mg) : Okd P w K mg base "_law_due" ["_law_number"] 1 1 true F__law_due := def_ok B.d__law_due sc__law_due rfl (fun _ => (nn_seqL (nn_ret _))) fun f cdv A outer s H E hr => bd__law_due B hr
theorem bd__law_tree_refused (B : Tx K mg) {f : Addr} {cdv : Value} {A : Around} {outer : List PySem.Env} {s : Shared} {H : Hp} {E : XK} (hr : Room 20 (A.deeper (envOfC "_law_tree_refused" (defScope st__law_tree_refused) s.heap.objs.size f cdv))) :
    BJ (cxOf (L2N.CX P w) P w K mg base ["_law_cell", "_law_p", "_law_poly_here", "_law_depth", "_law_at", "_law_behind", "_law_things", "_law_k"] "_law_tree_refused" (defScope st__law_tree_refused) f cdv A outer s H E) (fun cls d _ H => E cls d H) false (defBody st__law_tree_refused) D__law_tree_refused :=
  (b_cons (s_set (i := 4) sc__law_tree_refused.nd rfl (Or.inl rfl) (e_mod (e_varT (pv 0)) (e_s_t e_int)))
(b_cons (s_set (i := 5) sc__law_tree_refused.nd rfl (Or.inl rfl) (e_eq hr.units (e_s_t (e_mod (e_s_t (e_fdiv (e_varT (pv 0)) (e_s_t e_int))) (e_s_t e_int))) (e_s_t e_int)))
(b_cons (s_setO (i := 6) sc__law_tree_refused.nd rfl (Or.inl rfl) (e_lst (a_cons (e_var (pv 1)) (a_cons (e_var (pv 2)) (a_cons (e_var (pv 3)) a_nil)))))
(b_cons (s_for hp_of rfl (i_rng1 B.n_range (by rfl) (a_cons (e_s_t e_int) a_nil)) (g_name (pg_name (i := 7) sc__law_tree_refused.nd rfl (Or.inl rfl)))
(b_cons (s_if (t_w (w_or (t_eq hr.units (e_varT (pv 7)) (e_varT (pv 4))) (w_or1 (t_w (w_and (t_gt (e_varT (pv 7)) (e_varT (pv 4))) (w_and1 (t_val (e_var (pv 5)))))))))
(b_cons (s_setI (i := 6) (pv 6) (e_callL (ok__law_no_prime B) (ok__law_no_poly B) (ok__law_no_depth B) hr (by decide) (by decide) (by decide) tk_of (by rfl) (by rfl) (by rfl) (e_varT (pv 7)) (fun _ _ => rfl) (a_cons (e_fdiv (e_varT (pv 0)) (e_s_t e_int)) a_nil) (ALen.cons ALen.nil)) (e_var (pv 7)))
b_nil)
b_nil)
b_nil))
(b_cons (s_ret (e_eq hr.units (e_f_t (e_callD (ok__law_word B) hr (by decide) tk_of (by rfl) (a_cons e_int (a_cons (e_item (e_varT (pv 6)) (e_s_t e_int) (fun _ _ => rfl)) (a_cons (e_item (e_varT (pv 6)) (e_s_t e_int) (fun _ _ => rfl)) (a_cons (e_item (e_varT (pv 6)) (e_s_t e_int) (fun _ _ => rfl)) (a_cons e_int a_nil))))) (ALen.cons (ALen.cons (ALen.cons (ALen.cons (ALen.cons ALen.nil))))))) (e_f_t (e_callD (ok__law_due B) hr (by decide) tk_of (by rfl) (a_cons (e_var (pv 4)) a_nil) (ALen.cons ALen.nil)))))
b_nil)))))
theorem ok__law_tree_refused (B : Tx K mg) : Okd P w K mg base "_law_tree_refused" ["_law_cell", "_law_p", "_law_poly_here", "_law_depth"] 21 4 false F__law_tree_refused := def_ok B.d__law_tree_refused sc__law_tree_refused rfl (fun z => nomatch z) fun f cdv A outer s H E hr => bd__law_tree_refused B hr
theorem bd__law_root_refused (B : Tx K mg) {f : Addr} {cdv : Value} {A : Around} {outer : List PySem.Env} {s : Shared} {H : Hp} {E : XK} (hr : Room 20 (A.deeper (envOfC "_law_root_refused" (defScope st__law_root_refused) s.heap.objs.size f cdv))) :
    BJ (cxOf (L2N.CX P w) P w K mg base ["_law_cell", "_law_p", "_law_poly_here", "_law_rows", "_law_good", "_law_at", "_law_behind", "_law_stem", "_law_things"] "_law_root_refused" (defScope st__law_root_refused) f cdv A outer s H E) (fun cls d _ H => E cls d H) false (defBody st__law_root_refused) D__law_root_refused :=
  (b_cons (s_set (i := 5) sc__law_root_refused.nd rfl (Or.inl rfl) (e_mod (e_varT (pv 0)) (e_s_t e_int)))
(b_cons (s_set (i := 6) sc__law_root_refused.nd rfl (Or.inl rfl) (e_eq hr.units (e_s_t (e_mod (e_s_t (e_fdiv (e_varT (pv 0)) (e_s_t e_int))) (e_s_t e_int))) (e_s_t e_int)))
(b_cons (s_if (t_w (w_and (t_eq hr.units (e_varT (pv 5)) (e_s_t e_int)) (w_and1 (t_eq hr.units (e_varT (pv 4)) (e_f_t (e_lst a_nil))))))
(b_cons (s_set (i := 5) sc__law_root_refused.nd rfl (Or.inl rfl) e_int)
b_nil)
b_nil)
(b_cons (s_set (i := 7) sc__law_root_refused.nd rfl (Or.inl rfl) (e_tup a_nil))
(b_cons (s_if (t_ne hr.units (e_varT (pv 4)) (e_f_t (e_lst a_nil)))
(b_cons (s_set (i := 7) sc__law_root_refused.nd rfl (Or.inl rfl) (e_item (e_s_t (e_item (e_varT (pv 4)) (e_s_t (e_mod (e_s_t (e_fdiv (e_varT (pv 0)) (e_s_t e_int))) (e_s_t (e_len B.n_len (by rfl) (a_cons (e_varT (pv 4)) a_nil))))) (fun _ _ => rfl))) (e_s_t e_int) (fun _ _ => rfl)))
b_nil)
b_nil)
(b_cons (s_setO (i := 8) sc__law_root_refused.nd rfl (Or.inl rfl) (e_lst (a_cons (e_var (pv 1)) (a_cons (e_var (pv 2)) (a_cons (e_var (pv 7)) (a_cons (e_add (e_s_t (e_len B.n_len (by rfl) (a_cons (e_varT (pv 7)) a_nil))) (e_s_t (e_mod (e_s_t (e_fdiv (e_varT (pv 0)) (e_s_t e_int))) (e_s_t e_int)))) a_nil))))))
(b_cons (s_if (t_eq hr.units (e_varT (pv 5)) (e_s_t e_int))
(b_cons (s_setI (i := 8) (pv 8) (e_callD (ok__law_no_prime B) hr (by decide) tk_of (by rfl) (a_cons (e_fdiv (e_varT (pv 0)) (e_s_t e_int)) a_nil) (ALen.cons ALen.nil)) e_int)
b_nil)
b_nil)
(b_cons (s_if (t_w (w_or (t_eq hr.units (e_varT (pv 5)) (e_s_t e_int)) (w_or1 (t_w (w_and (t_val (e_var (pv 6))) (w_and1 (t_lt (e_varT (pv 5)) (e_s_t e_int))))))))
(b_cons (s_setI (i := 8) (pv 8) (e_callD (ok__law_no_poly B) hr (by decide) tk_of (by rfl) (a_cons (e_fdiv (e_varT (pv 0)) (e_s_t e_int)) a_nil) (ALen.cons ALen.nil)) e_int)
b_nil)
b_nil)
(b_cons (s_if (t_w (w_or (t_eq hr.units (e_varT (pv 5)) (e_s_t e_int)) (w_or1 (t_w (w_and (t_val (e_var (pv 6))) (w_and1 (t_lt (e_varT (pv 5)) (e_s_t e_int))))))))
(b_cons (s_setI (i := 8) (pv 8) (e_callD (ok__law_no_stem B) hr (by decide) tk_of (by rfl) (a_cons (e_fdiv (e_varT (pv 0)) (e_s_t e_int)) (a_cons (e_var (pv 3)) (a_cons (e_var (pv 1)) a_nil))) (ALen.cons (ALen.cons (ALen.cons ALen.nil)))) e_int)
b_nil)
b_nil)
(b_cons (s_if (t_w (w_or (t_eq hr.units (e_varT (pv 5)) (e_s_t e_int)) (w_or1 (t_w (w_and (t_val (e_var (pv 6))) (w_and1 (t_lt (e_varT (pv 5)) (e_s_t e_int))))))))
(b_cons (s_setI (i := 8) (pv 8) (e_callD (ok__law_no_end B) hr (by decide) tk_of (by rfl) (a_cons (e_fdiv (e_varT (pv 0)) (e_s_t e_int)) (a_cons (e_len B.n_len (by rfl) (a_cons (e_varT (pv 7)) a_nil)) a_nil)) (ALen.cons (ALen.cons ALen.nil))) e_int)
b_nil)
b_nil)
(b_cons (s_ret (e_eq hr.units (e_f_t (e_callD (ok__law_word B) hr (by decide) tk_of (by rfl) (a_cons e_int (a_cons (e_item (e_varT (pv 8)) (e_s_t e_int) (fun _ _ => rfl)) (a_cons (e_item (e_varT (pv 8)) (e_s_t e_int) (fun _ _ => rfl)) (a_cons (e_item (e_varT (pv 8)) (e_s_t e_int) (fun _ _ => rfl)) (a_cons (e_item (e_varT (pv 8)) (e_s_t e_int) (fun _ _ => rfl)) a_nil))))) (ALen.cons (ALen.cons (ALen.cons (ALen.cons (ALen.cons ALen.nil))))))) (e_f_t (e_callD (ok__law_due B) hr (by decide) tk_of (by rfl) (a_cons (e_item (e_f_t (e_lst (a_cons e_int (a_cons e_int (a_cons e_int (a_cons e_int a_nil)))))) (e_varT (pv 5)) (fun _ _ => rfl)) a_nil) (ALen.cons ALen.nil)))))
b_nil)))))))))))
theorem ok__law_root_refused (B : Tx K mg) : Okd P w K mg base "_law_root_refused" ["_law_cell", "_law_p", "_law_poly_here", "_law_rows", "_law_good"] 21 5 false F__law_root_refused := def_ok B.d__law_root_refused sc__law_root_refused rfl (fun z => nomatch z) fun f cdv A outer s H E hr => bd__law_root_refused B hr
theorem bd_law (B : Tx K mg) {f : Addr} {cdv : Value} {A : Around} {outer : List PySem.Env} {s : Shared} {H : Hp} {E : XK} (hr : Room 21 (A.deeper (envOfC "law" (defScope st_law) s.heap.objs.size f cdv))) :
    BJ (cxOf (L2N.CX P w) P w K mg base ["_law_script", "_law_p", "_law_poly_here", "_law_depth", "_law_rows", "_law_good", "_law_kept", "_law_cell", "_law_others", "_law_stem", "_law_row"] "law" (defScope st_law) f cdv A outer s H E) (fun cls d _ H => E cls d H) false (defBody st_law) D_law :=
  (b_cons (s_to (e_callD (ok__law_asked B) hr (by decide) tk_of (by rfl) (a_cons (e_var (pv 0)) a_nil) (ALen.cons ALen.nil)) (g_tup rfl (gs_cons (g_name (pg_name (i := 1) sc_law.nd rfl (Or.inl rfl))) (gs_cons (g_name (pg_name (i := 2) sc_law.nd rfl (Or.inl rfl))) (gs_cons (g_name (pg_name (i := 3) sc_law.nd rfl (Or.inl rfl))) gs_nil))) (gs_len (gs_len (gs_len gs_len0)))))
(b_cons (s_set (i := 4) sc_law.nd rfl (Or.inl rfl) (e_f_s (e_callD (ok_tree_of B) hr (by decide) tk_of (by rfl) (a_cons (e_var (pv 1)) (a_cons (e_var (pv 2)) (a_cons (e_var (pv 3)) a_nil))) (ALen.cons (ALen.cons (ALen.cons ALen.nil))))))
(b_cons (lcs (i := 5) (own := [("_law_row", 10)]) (q_lc (by decide)) rfl sc_law.nd rfl rfl (sw_true rfl rfl rfl (by decide +kernel)) (i_seq (e_var (pv 4))) (blkOk_by (own := [("_law_row", 10)]) (N := ["_law_script", "_law_p", "_law_poly_here", "_law_depth", "_law_rows", "_law_good", "_law_kept", "_law_cell", "_law_others", "_law_stem", "_law_row"]) (sc := defScope st_law) (by decide +kernel)) (fun _ _ _ _ _ => (g_name (pg_name (i := 10) sc_law.nd rfl (Or.inl rfl)))) (fun _ _ _ _ _ => (c_one (t_eq hr.units (e_s_t (e_item (e_varT (pv 10)) (e_s_t e_int) (fun _ _ => rfl))) (e_s_t e_str)))) (fun _ _ _ _ _ => (e_var (pv 10))))
(b_cons (s_set (i := 6) sc_law.nd rfl (Or.inl rfl) (e_f_s (e_list B.n_list (by rfl) (a_cons (e_varT (pv 2)) a_nil))))
(b_cons (s_for hp_of rfl (i_seq (e_add (e_s_t (e_slice (e_varT (pv 0)) (o_some e_int) (o_some e_int))) (e_f_t (e_lst (a_cons e_int a_nil))))) (g_name (pg_name (i := 7) sc_law.nd rfl (Or.inl rfl)))
(b_cons (s_if (t_not (t_val (e_callD (ok__law_tree_refused B) hr (by decide) tk_of (by rfl) (a_cons (e_fdiv (e_varT (pv 7)) (e_s_t e_int)) (a_cons (e_var (pv 1)) (a_cons (e_var (pv 2)) (a_cons (e_var (pv 3)) a_nil)))) (ALen.cons (ALen.cons (ALen.cons (ALen.cons ALen.nil)))))))
(b_cons (s_ret e_bl)
b_nil)
b_nil)
(b_cons (s_if (t_not (t_val (e_callD (ok__law_root_refused B) hr (by decide) tk_of (by rfl) (a_cons (e_fdiv (e_varT (pv 7)) (e_s_t e_int)) (a_cons (e_var (pv 1)) (a_cons (e_var (pv 2)) (a_cons (e_var (pv 4)) (a_cons (e_var (pv 5)) a_nil))))) (ALen.cons (ALen.cons (ALen.cons (ALen.cons (ALen.cons ALen.nil))))))))
(b_cons (s_ret e_bl)
b_nil)
b_nil)
(b_cons (lcs (i := 8) (own := [("_law_row", 10)]) (q_lc (by decide)) rfl sc_law.nd rfl rfl (sw_true rfl rfl rfl (by decide +kernel)) (i_seq (e_var (pv 4))) (blkOk_by (own := [("_law_row", 10)]) (N := ["_law_script", "_law_p", "_law_poly_here", "_law_depth", "_law_rows", "_law_good", "_law_kept", "_law_cell", "_law_others", "_law_stem", "_law_row"]) (sc := defScope st_law) (by decide +kernel)) (fun _ _ _ _ _ => (g_name (pg_name (i := 10) sc_law.nd rfl (Or.inl rfl)))) (fun _ _ _ _ _ => (c_one (t_ne hr.units (e_s_t (e_item (e_varT (pv 10)) (e_s_t e_int) (fun _ _ => rfl))) (e_s_t e_str)))) (fun _ _ _ _ _ => (e_var (pv 10))))
(b_cons (s_if (t_ne hr.units (e_varT (pv 8)) (e_f_t (e_lst a_nil)))
(b_cons (s_set (i := 9) sc_law.nd rfl (Or.inl rfl) (e_item (e_s_t (e_item (e_varT (pv 8)) (e_s_t (e_mod (e_s_t (e_fdiv (e_varT (pv 7)) (e_s_t e_int))) (e_s_t (e_len B.n_len (by rfl) (a_cons (e_varT (pv 8)) a_nil))))) (fun _ _ => rfl))) (e_s_t e_int) (fun _ _ => rfl)))
(b_cons (s_if (t_ne hr.units (e_f_t (e_callD (ok__law_word B) hr (by decide) tk_of (by rfl) (a_cons e_int (a_cons (e_var (pv 1)) (a_cons (e_var (pv 2)) (a_cons (e_var (pv 9)) (a_cons e_int a_nil))))) (ALen.cons (ALen.cons (ALen.cons (ALen.cons (ALen.cons ALen.nil))))))) (e_f_t (e_callD (ok__law_due B) hr (by decide) tk_of (by rfl) (a_cons e_int a_nil) (ALen.cons ALen.nil))))
(b_cons (s_ret e_bl)
b_nil)
b_nil)
b_nil))
b_nil)
b_nil)))))
(b_cons (s_ret (e_eq hr.units (e_varT (pv 2)) (e_varT (pv 6))))
b_nil))))))
end
theorem all_mk {l : PySem.W.OpenLaw} {w : World} {K : PySem.W.Frag} {h : Heap} {mg : Str → Option Value} {fa : Addr} (X : K.In h) (G : h.Ns mainGlobals mg) (hfa : mg "law" = some (.ref fa))
    {f0 : Addr} {od0 an0 : Option Addr} {sl0 : Array (Option Value)} {oc0 kV0 dc0 pm0 cd0 ct0 : Value}
    {f1 : Addr} {od1 an1 : Option Addr} {sl1 : Array (Option Value)} {oc1 kV1 dc1 pm1 cd1 ct1 : Value}
    {f2 : Addr} {od2 an2 : Option Addr} {sl2 : Array (Option Value)} {oc2 kV2 dc2 pm2 cd2 ct2 : Value}
    {f3 : Addr} {od3 an3 : Option Addr} {sl3 : Array (Option Value)} {oc3 kV3 dc3 pm3 cd3 ct3 : Value}
    {f4 : Addr} {od4 an4 : Option Addr} {sl4 : Array (Option Value)} {oc4 kV4 dc4 pm4 cd4 ct4 : Value}
    {f5 : Addr} {od5 an5 : Option Addr} {sl5 : Array (Option Value)} {oc5 kV5 dc5 pm5 cd5 ct5 : Value}
    {f6 : Addr} {od6 an6 : Option Addr} {sl6 : Array (Option Value)} {oc6 kV6 dc6 pm6 cd6 ct6 : Value}
    {f7 : Addr} {od7 an7 : Option Addr} {sl7 : Array (Option Value)} {oc7 kV7 dc7 pm7 cd7 ct7 : Value}
    {f8 : Addr} {od8 an8 : Option Addr} {sl8 : Array (Option Value)} {oc8 kV8 dc8 pm8 cd8 ct8 : Value}
    {f9 : Addr} {od9 an9 : Option Addr} {sl9 : Array (Option Value)} {oc9 kV9 dc9 pm9 cd9 ct9 : Value}
    {f10 : Addr} {od10 an10 : Option Addr} {sl10 : Array (Option Value)} {oc10 kV10 dc10 pm10 cd10 ct10 : Value}
    {f11 : Addr} {od11 an11 : Option Addr} {sl11 : Array (Option Value)} {oc11 kV11 dc11 pm11 cd11 ct11 : Value}
    {f12 : Addr} {od12 an12 : Option Addr} {sl12 : Array (Option Value)} {oc12 kV12 dc12 pm12 cd12 ct12 : Value}
    {f13 : Addr} {od13 an13 : Option Addr} {sl13 : Array (Option Value)} {oc13 kV13 dc13 pm13 cd13 ct13 : Value}
    {f14 : Addr} {od14 an14 : Option Addr} {sl14 : Array (Option Value)} {oc14 kV14 dc14 pm14 cd14 ct14 : Value}
    {f15 : Addr} {od15 an15 : Option Addr} {sl15 : Array (Option Value)} {oc15 kV15 dc15 pm15 cd15 ct15 : Value}
    {f16 : Addr} {od16 an16 : Option Addr} {sl16 : Array (Option Value)} {oc16 kV16 dc16 pm16 cd16 ct16 : Value}
    {f17 : Addr} {od17 an17 : Option Addr} {sl17 : Array (Option Value)} {oc17 kV17 dc17 pm17 cd17 ct17 : Value}
    {f18 : Addr} {od18 an18 : Option Addr} {sl18 : Array (Option Value)} {oc18 kV18 dc18 pm18 cd18 ct18 : Value}
    {f19 : Addr} {od19 an19 : Option Addr} {sl19 : Array (Option Value)} {oc19 kV19 dc19 pm19 cd19 ct19 : Value}
    {f20 : Addr} {od20 an20 : Option Addr} {sl20 : Array (Option Value)} {oc20 kV20 dc20 pm20 cd20 ct20 : Value}
    {f21 : Addr} {od21 an21 : Option Addr} {sl21 : Array (Option Value)} {oc21 kV21 dc21 pm21 cd21 ct21 : Value}
    {f22 : Addr} {od22 an22 : Option Addr} {sl22 : Array (Option Value)} {oc22 kV22 dc22 pm22 cd22 ct22 : Value}
    {f23 : Addr} {od23 an23 : Option Addr} {sl23 : Array (Option Value)} {oc23 kV23 dc23 pm23 cd23 ct23 : Value}
    {f24 : Addr} {od24 an24 : Option Addr} {sl24 : Array (Option Value)} {oc24 kV24 dc24 pm24 cd24 ct24 : Value}
    {f25 : Addr} {od25 an25 : Option Addr} {sl25 : Array (Option Value)} {oc25 kV25 dc25 pm25 cd25 ct25 : Value}
    {f26 : Addr} {od26 an26 : Option Addr} {sl26 : Array (Option Value)} {oc26 kV26 dc26 pm26 cd26 ct26 : Value}
    {f27 : Addr} {od27 an27 : Option Addr} {sl27 : Array (Option Value)} {oc27 kV27 dc27 pm27 cd27 ct27 : Value}
    {f28 : Addr} {od28 an28 : Option Addr} {sl28 : Array (Option Value)} {oc28 kV28 dc28 pm28 cd28 ct28 : Value}
    {f29 : Addr} {od29 an29 : Option Addr} {sl29 : Array (Option Value)} {oc29 kV29 dc29 pm29 cd29 ct29 : Value}
    {f30 : Addr} {od30 an30 : Option Addr} {sl30 : Array (Option Value)} {oc30 kV30 dc30 pm30 cd30 ct30 : Value}
    {f31 : Addr} {od31 an31 : Option Addr} {sl31 : Array (Option Value)} {oc31 kV31 dc31 pm31 cd31 ct31 : Value}
    {f32 : Addr} {od32 an32 : Option Addr} {sl32 : Array (Option Value)} {oc32 kV32 dc32 pm32 cd32 ct32 : Value}
    {f33 : Addr} {od33 an33 : Option Addr} {sl33 : Array (Option Value)} {oc33 kV33 dc33 pm33 cd33 ct33 : Value}
    {f34 : Addr} {od34 an34 : Option Addr} {sl34 : Array (Option Value)} {oc34 kV34 dc34 pm34 cd34 ct34 : Value}
    {f35 : Addr} {od35 an35 : Option Addr} {sl35 : Array (Option Value)} {oc35 kV35 dc35 pm35 cd35 ct35 : Value}
    {f36 : Addr} {od36 an36 : Option Addr} {sl36 : Array (Option Value)} {oc36 kV36 dc36 pm36 cd36 ct36 : Value}
    {t0 : Tok}
    {t1 : Tok}
    {t2 : Tok}
    {t3 : Tok}
    {t4 : Tok}
    {C0 : Addr}
    {C1 : Addr}
    {C2 : Addr}
    {C3 : Addr}
    {C4 : Addr}
    {C5 : Addr}
    {U0 : Addr}
    {U1 : Addr}
    {U2 : Addr}
    {U3 : Addr}
    {U4 : Addr}
    {U5 : Addr}
    {U6 : Addr}
    {U7 : Addr}
    {U8 : Addr}
    {U9 : Addr}
    {U10 : Addr}
    {U11 : Addr}
    {U12 : Addr}
    {U13 : Addr}
    {U14 : Addr}
    (a0 : PySem.W.nsIn K mainGlobals "is_whole" = some (some (.ref f0))) (l0 : K.lookup f0 = some ⟨oc0, od0, .func (PySem.W.fnOf "is_whole" "is_whole" (defArgs st_is_whole) (defBody st_is_whole) (defScope st_is_whole) .none kV0 dc0 pm0 an0 cd0 ct0), sl0⟩) (c0 : PySem.W.codeIn K cd0 "is_whole" = true) (k0 : PySem.W.keepIn K (.ref f0) = true)
    (a1 : PySem.W.nsIn K mainGlobals "is_prime" = some (some (.ref f1))) (l1 : K.lookup f1 = some ⟨oc1, od1, .func (PySem.W.fnOf "is_prime" "is_prime" (defArgs st_is_prime) (defBody st_is_prime) (defScope st_is_prime) .none kV1 dc1 pm1 an1 cd1 ct1), sl1⟩) (c1 : PySem.W.codeIn K cd1 "is_prime" = true) (k1 : PySem.W.keepIn K (.ref f1) = true)
    (a2 : PySem.W.nsIn K mainGlobals "exponent" = some (some (.ref f2))) (l2 : K.lookup f2 = some ⟨oc2, od2, .func (PySem.W.fnOf "exponent" "exponent" (defArgs st_exponent) (defBody st_exponent) (defScope st_exponent) .none kV2 dc2 pm2 an2 cd2 ct2), sl2⟩) (c2 : PySem.W.codeIn K cd2 "exponent" = true) (k2 : PySem.W.keepIn K (.ref f2) = true)
    (a3 : PySem.W.nsIn K mainGlobals "are_figures" = some (some (.ref f3))) (l3 : K.lookup f3 = some ⟨oc3, od3, .func (PySem.W.fnOf "are_figures" "are_figures" (defArgs st_are_figures) (defBody st_are_figures) (defScope st_are_figures) .none kV3 dc3 pm3 an3 cd3 ct3), sl3⟩) (c3 : PySem.W.codeIn K cd3 "are_figures" = true) (k3 : PySem.W.keepIn K (.ref f3) = true)
    (a4 : PySem.W.nsIn K mainGlobals "left_number" = some (some (.ref f4))) (l4 : K.lookup f4 = some ⟨oc4, od4, .func (PySem.W.fnOf "left_number" "left_number" (defArgs st_left_number) (defBody st_left_number) (defScope st_left_number) .none kV4 dc4 pm4 an4 cd4 ct4), sl4⟩) (c4 : PySem.W.codeIn K cd4 "left_number" = true) (k4 : PySem.W.keepIn K (.ref f4) = true)
    (a5 : PySem.W.nsIn K mainGlobals "of_whole" = some (some (.ref f5))) (l5 : K.lookup f5 = some ⟨oc5, od5, .func (PySem.W.fnOf "of_whole" "of_whole" (defArgs st_of_whole) (defBody st_of_whole) (defScope st_of_whole) .none kV5 dc5 pm5 an5 cd5 ct5), sl5⟩) (c5 : PySem.W.codeIn K cd5 "of_whole" = true) (k5 : PySem.W.keepIn K (.ref f5) = true)
    (a6 : PySem.W.nsIn K mainGlobals "is_poly" = some (some (.ref f6))) (l6 : K.lookup f6 = some ⟨oc6, od6, .func (PySem.W.fnOf "is_poly" "is_poly" (defArgs st_is_poly) (defBody st_is_poly) (defScope st_is_poly) .none kV6 dc6 pm6 an6 cd6 ct6), sl6⟩) (c6 : PySem.W.codeIn K cd6 "is_poly" = true) (k6 : PySem.W.keepIn K (.ref f6) = true)
    (a7 : PySem.W.nsIn K mainGlobals "want_poly" = some (some (.ref f7))) (l7 : K.lookup f7 = some ⟨oc7, od7, .func (PySem.W.fnOf "want_poly" "want_poly" (defArgs st_want_poly) (defBody st_want_poly) (defScope st_want_poly) .none kV7 dc7 pm7 an7 cd7 ct7), sl7⟩) (c7 : PySem.W.codeIn K cd7 "want_poly" = true) (k7 : PySem.W.keepIn K (.ref f7) = true)
    (a8 : PySem.W.nsIn K mainGlobals "whole_worth" = some (some (.ref f8))) (l8 : K.lookup f8 = some ⟨oc8, od8, .func (PySem.W.fnOf "whole_worth" "whole_worth" (defArgs st_whole_worth) (defBody st_whole_worth) (defScope st_whole_worth) .none kV8 dc8 pm8 an8 cd8 ct8), sl8⟩) (c8 : PySem.W.codeIn K cd8 "whole_worth" = true) (k8 : PySem.W.keepIn K (.ref f8) = true)
    (a9 : PySem.W.nsIn K mainGlobals "slope_of" = some (some (.ref f9))) (l9 : K.lookup f9 = some ⟨oc9, od9, .func (PySem.W.fnOf "slope_of" "slope_of" (defArgs st_slope_of) (defBody st_slope_of) (defScope st_slope_of) .none kV9 dc9 pm9 an9 cd9 ct9), sl9⟩) (c9 : PySem.W.codeIn K cd9 "slope_of" = true) (k9 : PySem.W.keepIn K (.ref f9) = true)
    (a10 : PySem.W.nsIn K mainGlobals "is_stem" = some (some (.ref f10))) (l10 : K.lookup f10 = some ⟨oc10, od10, .func (PySem.W.fnOf "is_stem" "is_stem" (defArgs st_is_stem) (defBody st_is_stem) (defScope st_is_stem) .none kV10 dc10 pm10 an10 cd10 ct10), sl10⟩) (c10 : PySem.W.codeIn K cd10 "is_stem" = true) (k10 : PySem.W.keepIn K (.ref f10) = true)
    (a11 : PySem.W.nsIn K mainGlobals "shifted" = some (some (.ref f11))) (l11 : K.lookup f11 = some ⟨oc11, od11, .func (PySem.W.fnOf "shifted" "shifted" (defArgs st_shifted) (defBody st_shifted) (defScope st_shifted) .none kV11 dc11 pm11 an11 cd11 ct11), sl11⟩) (c11 : PySem.W.codeIn K cd11 "shifted" = true) (k11 : PySem.W.keepIn K (.ref f11) = true)
    (a12 : PySem.W.nsIn K mainGlobals "lifted" = some (some (.ref f12))) (l12 : K.lookup f12 = some ⟨oc12, od12, .func (PySem.W.fnOf "lifted" "lifted" (defArgs st_lifted) (defBody st_lifted) (defScope st_lifted) .none kV12 dc12 pm12 an12 cd12 ct12), sl12⟩) (c12 : PySem.W.codeIn K cd12 "lifted" = true) (k12 : PySem.W.keepIn K (.ref f12) = true)
    (a13 : PySem.W.nsIn K mainGlobals "one_on" = some (some (.ref f13))) (l13 : K.lookup f13 = some ⟨oc13, od13, .func (PySem.W.fnOf "one_on" "one_on" (defArgs st_one_on) (defBody st_one_on) (defScope st_one_on) .none kV13 dc13 pm13 an13 cd13 ct13), sl13⟩) (c13 : PySem.W.codeIn K cd13 "one_on" = true) (k13 : PySem.W.keepIn K (.ref f13) = true)
    (a14 : PySem.W.nsIn K mainGlobals "seen_from" = some (some (.ref f14))) (l14 : K.lookup f14 = some ⟨oc14, od14, .func (PySem.W.fnOf "seen_from" "seen_from" (defArgs st_seen_from) (defBody st_seen_from) (defScope st_seen_from) .none kV14 dc14 pm14 an14 cd14 ct14), sl14⟩) (c14 : PySem.W.codeIn K cd14 "seen_from" = true) (k14 : PySem.W.keepIn K (.ref f14) = true)
    (a15 : PySem.W.nsIn K mainGlobals "word_of" = some (some (.ref f15))) (l15 : K.lookup f15 = some ⟨oc15, od15, .func (PySem.W.fnOf "word_of" "word_of" (defArgs st_word_of) (defBody st_word_of) (defScope st_word_of) .none kV15 dc15 pm15 an15 cd15 ct15), sl15⟩) (c15 : PySem.W.codeIn K cd15 "word_of" = true) (k15 : PySem.W.keepIn K (.ref f15) = true)
    (a16 : PySem.W.nsIn K mainGlobals "grown" = some (some (.ref f16))) (l16 : K.lookup f16 = some ⟨oc16, od16, .func (PySem.W.fnOf "grown" "grown" (defArgs st_grown) (defBody st_grown) (defScope st_grown) .none kV16 dc16 pm16 an16 cd16 ct16), sl16⟩) (c16 : PySem.W.codeIn K cd16 "grown" = true) (k16 : PySem.W.keepIn K (.ref f16) = true)
    (a17 : PySem.W.nsIn K mainGlobals "tree_of" = some (some (.ref f17))) (l17 : K.lookup f17 = some ⟨oc17, od17, .func (PySem.W.fnOf "tree_of" "tree_of" (defArgs st_tree_of) (defBody st_tree_of) (defScope st_tree_of) .none kV17 dc17 pm17 an17 cd17 ct17), sl17⟩) (c17 : PySem.W.codeIn K cd17 "tree_of" = true) (k17 : PySem.W.keepIn K (.ref f17) = true)
    (a18 : PySem.W.nsIn K mainGlobals "rise_of" = some (some (.ref f18))) (l18 : K.lookup f18 = some ⟨oc18, od18, .func (PySem.W.fnOf "rise_of" "rise_of" (defArgs st_rise_of) (defBody st_rise_of) (defScope st_rise_of) .none kV18 dc18 pm18 an18 cd18 ct18), sl18⟩) (c18 : PySem.W.codeIn K cd18 "rise_of" = true) (k18 : PySem.W.keepIn K (.ref f18) = true)
    (a19 : PySem.W.nsIn K mainGlobals "undone" = some (some (.ref f19))) (l19 : K.lookup f19 = some ⟨oc19, od19, .func (PySem.W.fnOf "undone" "undone" (defArgs st_undone) (defBody st_undone) (defScope st_undone) .none kV19 dc19 pm19 an19 cd19 ct19), sl19⟩) (c19 : PySem.W.codeIn K cd19 "undone" = true) (k19 : PySem.W.keepIn K (.ref f19) = true)
    (a20 : PySem.W.nsIn K mainGlobals "root_of" = some (some (.ref f20))) (l20 : K.lookup f20 = some ⟨oc20, od20, .func (PySem.W.fnOf "root_of" "root_of" (defArgs st_root_of) (defBody st_root_of) (defScope st_root_of) .none kV20 dc20 pm20 an20 cd20 ct20), sl20⟩) (c20 : PySem.W.codeIn K cd20 "root_of" = true) (k20 : PySem.W.keepIn K (.ref f20) = true)
    (a21 : PySem.W.nsIn K mainGlobals "_law_cell_at" = some (some (.ref f21))) (l21 : K.lookup f21 = some ⟨oc21, od21, .func (PySem.W.fnOf "_law_cell_at" "_law_cell_at" (defArgs st__law_cell_at) (defBody st__law_cell_at) (defScope st__law_cell_at) .none kV21 dc21 pm21 an21 cd21 ct21), sl21⟩) (c21 : PySem.W.codeIn K cd21 "_law_cell_at" = true) (k21 : PySem.W.keepIn K (.ref f21) = true)
    (a22 : PySem.W.nsIn K mainGlobals "_law_prime" = some (some (.ref f22))) (l22 : K.lookup f22 = some ⟨oc22, od22, .func (PySem.W.fnOf "_law_prime" "_law_prime" (defArgs st__law_prime) (defBody st__law_prime) (defScope st__law_prime) .none kV22 dc22 pm22 an22 cd22 ct22), sl22⟩) (c22 : PySem.W.codeIn K cd22 "_law_prime" = true) (k22 : PySem.W.keepIn K (.ref f22) = true)
    (a23 : PySem.W.nsIn K mainGlobals "_law_product" = some (some (.ref f23))) (l23 : K.lookup f23 = some ⟨oc23, od23, .func (PySem.W.fnOf "_law_product" "_law_product" (defArgs st__law_product) (defBody st__law_product) (defScope st__law_product) .none kV23 dc23 pm23 an23 cd23 ct23), sl23⟩) (c23 : PySem.W.codeIn K cd23 "_law_product" = true) (k23 : PySem.W.keepIn K (.ref f23) = true)
    (a24 : PySem.W.nsIn K mainGlobals "_law_factors" = some (some (.ref f24))) (l24 : K.lookup f24 = some ⟨oc24, od24, .func (PySem.W.fnOf "_law_factors" "_law_factors" (defArgs st__law_factors) (defBody st__law_factors) (defScope st__law_factors) .none kV24 dc24 pm24 an24 cd24 ct24), sl24⟩) (c24 : PySem.W.codeIn K cd24 "_law_factors" = true) (k24 : PySem.W.keepIn K (.ref f24) = true)
    (a25 : PySem.W.nsIn K mainGlobals "_law_poly" = some (some (.ref f25))) (l25 : K.lookup f25 = some ⟨oc25, od25, .func (PySem.W.fnOf "_law_poly" "_law_poly" (defArgs st__law_poly) (defBody st__law_poly) (defScope st__law_poly) .none kV25 dc25 pm25 an25 cd25 ct25), sl25⟩) (c25 : PySem.W.codeIn K cd25 "_law_poly" = true) (k25 : PySem.W.keepIn K (.ref f25) = true)
    (a26 : PySem.W.nsIn K mainGlobals "_law_asked" = some (some (.ref f26))) (l26 : K.lookup f26 = some ⟨oc26, od26, .func (PySem.W.fnOf "_law_asked" "_law_asked" (defArgs st__law_asked) (defBody st__law_asked) (defScope st__law_asked) .none kV26 dc26 pm26 an26 cd26 ct26), sl26⟩) (c26 : PySem.W.codeIn K cd26 "_law_asked" = true) (k26 : PySem.W.keepIn K (.ref f26) = true)
    (a27 : PySem.W.nsIn K mainGlobals "_law_no_prime" = some (some (.ref f27))) (l27 : K.lookup f27 = some ⟨oc27, od27, .func (PySem.W.fnOf "_law_no_prime" "_law_no_prime" (defArgs st__law_no_prime) (defBody st__law_no_prime) (defScope st__law_no_prime) .none kV27 dc27 pm27 an27 cd27 ct27), sl27⟩) (c27 : PySem.W.codeIn K cd27 "_law_no_prime" = true) (k27 : PySem.W.keepIn K (.ref f27) = true)
    (a28 : PySem.W.nsIn K mainGlobals "_law_no_poly" = some (some (.ref f28))) (l28 : K.lookup f28 = some ⟨oc28, od28, .func (PySem.W.fnOf "_law_no_poly" "_law_no_poly" (defArgs st__law_no_poly) (defBody st__law_no_poly) (defScope st__law_no_poly) .none kV28 dc28 pm28 an28 cd28 ct28), sl28⟩) (c28 : PySem.W.codeIn K cd28 "_law_no_poly" = true) (k28 : PySem.W.keepIn K (.ref f28) = true)
    (a29 : PySem.W.nsIn K mainGlobals "_law_no_depth" = some (some (.ref f29))) (l29 : K.lookup f29 = some ⟨oc29, od29, .func (PySem.W.fnOf "_law_no_depth" "_law_no_depth" (defArgs st__law_no_depth) (defBody st__law_no_depth) (defScope st__law_no_depth) .none kV29 dc29 pm29 an29 cd29 ct29), sl29⟩) (c29 : PySem.W.codeIn K cd29 "_law_no_depth" = true) (k29 : PySem.W.keepIn K (.ref f29) = true)
    (a30 : PySem.W.nsIn K mainGlobals "_law_no_stem" = some (some (.ref f30))) (l30 : K.lookup f30 = some ⟨oc30, od30, .func (PySem.W.fnOf "_law_no_stem" "_law_no_stem" (defArgs st__law_no_stem) (defBody st__law_no_stem) (defScope st__law_no_stem) .none kV30 dc30 pm30 an30 cd30 ct30), sl30⟩) (c30 : PySem.W.codeIn K cd30 "_law_no_stem" = true) (k30 : PySem.W.keepIn K (.ref f30) = true)
    (a31 : PySem.W.nsIn K mainGlobals "_law_no_end" = some (some (.ref f31))) (l31 : K.lookup f31 = some ⟨oc31, od31, .func (PySem.W.fnOf "_law_no_end" "_law_no_end" (defArgs st__law_no_end) (defBody st__law_no_end) (defScope st__law_no_end) .none kV31 dc31 pm31 an31 cd31 ct31), sl31⟩) (c31 : PySem.W.codeIn K cd31 "_law_no_end" = true) (k31 : PySem.W.keepIn K (.ref f31) = true)
    (a32 : PySem.W.nsIn K mainGlobals "_law_word" = some (some (.ref f32))) (l32 : K.lookup f32 = some ⟨oc32, od32, .func (PySem.W.fnOf "_law_word" "_law_word" (defArgs st__law_word) (defBody st__law_word) (defScope st__law_word) .none kV32 dc32 pm32 an32 cd32 ct32), sl32⟩) (c32 : PySem.W.codeIn K cd32 "_law_word" = true) (k32 : PySem.W.keepIn K (.ref f32) = true)
    (a33 : PySem.W.nsIn K mainGlobals "_law_due" = some (some (.ref f33))) (l33 : K.lookup f33 = some ⟨oc33, od33, .func (PySem.W.fnOf "_law_due" "_law_due" (defArgs st__law_due) (defBody st__law_due) (defScope st__law_due) .none kV33 dc33 pm33 an33 cd33 ct33), sl33⟩) (c33 : PySem.W.codeIn K cd33 "_law_due" = true) (k33 : PySem.W.keepIn K (.ref f33) = true)
    (a34 : PySem.W.nsIn K mainGlobals "_law_tree_refused" = some (some (.ref f34))) (l34 : K.lookup f34 = some ⟨oc34, od34, .func (PySem.W.fnOf "_law_tree_refused" "_law_tree_refused" (defArgs st__law_tree_refused) (defBody st__law_tree_refused) (defScope st__law_tree_refused) .none kV34 dc34 pm34 an34 cd34 ct34), sl34⟩) (c34 : PySem.W.codeIn K cd34 "_law_tree_refused" = true) (k34 : PySem.W.keepIn K (.ref f34) = true)
    (a35 : PySem.W.nsIn K mainGlobals "_law_root_refused" = some (some (.ref f35))) (l35 : K.lookup f35 = some ⟨oc35, od35, .func (PySem.W.fnOf "_law_root_refused" "_law_root_refused" (defArgs st__law_root_refused) (defBody st__law_root_refused) (defScope st__law_root_refused) .none kV35 dc35 pm35 an35 cd35 ct35), sl35⟩) (c35 : PySem.W.codeIn K cd35 "_law_root_refused" = true) (k35 : PySem.W.keepIn K (.ref f35) = true)
    (a36 : PySem.W.nsIn K mainGlobals "law" = some (some (.ref f36))) (l36 : K.lookup f36 = some ⟨oc36, od36, .func (PySem.W.fnOf "law" "law" (defArgs st_law) (defBody st_law) (defScope st_law) .none kV36 dc36 pm36 an36 cd36 ct36), sl36⟩) (c36 : PySem.W.codeIn K cd36 "law" = true) (k36 : PySem.W.keepIn K (.ref f36) = true)
    (z0 : PySem.W.nsIn K mainGlobals "ValueError" = some none)
    (z1 : PySem.W.nsIn K mainGlobals "all" = some none)
    (z2 : PySem.W.nsIn K mainGlobals "bool" = some none)
    (z3 : PySem.W.nsIn K mainGlobals "divmod" = some none)
    (z4 : PySem.W.nsIn K mainGlobals "enumerate" = some none)
    (z5 : PySem.W.nsIn K mainGlobals "int" = some none)
    (z6 : PySem.W.nsIn K mainGlobals "isinstance" = some none)
    (z7 : PySem.W.nsIn K mainGlobals "len" = some none)
    (z8 : PySem.W.nsIn K mainGlobals "list" = some none)
    (z9 : PySem.W.nsIn K mainGlobals "min" = some none)
    (z10 : PySem.W.nsIn K mainGlobals "range" = some none)
    (z11 : PySem.W.nsIn K mainGlobals "reversed" = some none)
    (z12 : PySem.W.nsIn K mainGlobals "tuple" = some none)
    (g0 : PySem.W.nsIn K mainGlobals "MOST_DEPTH" = some (some (.int 12 t0)))
    (g1 : PySem.W.nsIn K mainGlobals "MOST_END" = some (some (.int 400 t1)))
    (g2 : PySem.W.nsIn K mainGlobals "MOST_FIGURES" = some (some (.int 12 t2)))
    (g3 : PySem.W.nsIn K mainGlobals "MOST_NUMBERS" = some (some (.int 9 t3)))
    (g4 : PySem.W.nsIn K mainGlobals "MOST_PRIME" = some (some (.int 97 t4)))
    (xa0 : PySem.W.nsIn K mainGlobals "NoDepth" = some (some (.ref C0))) (xe0 : PySem.W.excIn K C0 [.type "ValueError", .type "Exception", .type "BaseException", .type "object"] "ValueError.__new__" = true) (xk0 : PySem.W.keepIn K (.ref C0) = true) (xs0 : PySem.W.subIn K (.ref C0) (.type "BaseException") = some true) (xt0 : PySem.W.typeIn K (.ref C0) = some (.type "type"))
    (xa1 : PySem.W.nsIn K mainGlobals "NoFigures" = some (some (.ref C1))) (xe1 : PySem.W.excIn K C1 [.type "ValueError", .type "Exception", .type "BaseException", .type "object"] "ValueError.__new__" = true) (xk1 : PySem.W.keepIn K (.ref C1) = true) (xs1 : PySem.W.subIn K (.ref C1) (.type "BaseException") = some true) (xt1 : PySem.W.typeIn K (.ref C1) = some (.type "type"))
    (xa2 : PySem.W.nsIn K mainGlobals "NoPlace" = some (some (.ref C2))) (xe2 : PySem.W.excIn K C2 [.type "ValueError", .type "Exception", .type "BaseException", .type "object"] "ValueError.__new__" = true) (xk2 : PySem.W.keepIn K (.ref C2) = true) (xs2 : PySem.W.subIn K (.ref C2) (.type "BaseException") = some true) (xt2 : PySem.W.typeIn K (.ref C2) = some (.type "type"))
    (xa3 : PySem.W.nsIn K mainGlobals "NoPolynomial" = some (some (.ref C3))) (xe3 : PySem.W.excIn K C3 [.type "ValueError", .type "Exception", .type "BaseException", .type "object"] "ValueError.__new__" = true) (xk3 : PySem.W.keepIn K (.ref C3) = true) (xs3 : PySem.W.subIn K (.ref C3) (.type "BaseException") = some true) (xt3 : PySem.W.typeIn K (.ref C3) = some (.type "type"))
    (xa4 : PySem.W.nsIn K mainGlobals "NoPrime" = some (some (.ref C4))) (xe4 : PySem.W.excIn K C4 [.type "ValueError", .type "Exception", .type "BaseException", .type "object"] "ValueError.__new__" = true) (xk4 : PySem.W.keepIn K (.ref C4) = true) (xs4 : PySem.W.subIn K (.ref C4) (.type "BaseException") = some true) (xt4 : PySem.W.typeIn K (.ref C4) = some (.type "type"))
    (xa5 : PySem.W.nsIn K mainGlobals "NoRoot" = some (some (.ref C5))) (xe5 : PySem.W.excIn K C5 [.type "ValueError", .type "Exception", .type "BaseException", .type "object"] "ValueError.__new__" = true) (xk5 : PySem.W.keepIn K (.ref C5) = true) (xs5 : PySem.W.subIn K (.ref C5) (.type "BaseException") = some true) (xt5 : PySem.W.typeIn K (.ref C5) = some (.type "type"))
    (ua0 : PySem.W.nsIn K mainGlobals "LeftError" = some (some (.ref U0)))
    (ua1 : PySem.W.nsIn K mainGlobals "NoDepth" = some (some (.ref U1)))
    (ua2 : PySem.W.nsIn K mainGlobals "NoFigures" = some (some (.ref U2)))
    (ua3 : PySem.W.nsIn K mainGlobals "NoFraction" = some (some (.ref U3)))
    (ua4 : PySem.W.nsIn K mainGlobals "NoPlace" = some (some (.ref U4)))
    (ua5 : PySem.W.nsIn K mainGlobals "NoPolynomial" = some (some (.ref U5)))
    (ua6 : PySem.W.nsIn K mainGlobals "NoPower" = some (some (.ref U6)))
    (ua7 : PySem.W.nsIn K mainGlobals "NoPrime" = some (some (.ref U7)))
    (ua8 : PySem.W.nsIn K mainGlobals "NoQuotient" = some (some (.ref U8)))
    (ua9 : PySem.W.nsIn K mainGlobals "NoRoot" = some (some (.ref U9)))
    (ua10 : PySem.W.nsIn K mainGlobals "NoSize" = some (some (.ref U10)))
    (ua11 : PySem.W.nsIn K mainGlobals "NoText" = some (some (.ref U11)))
    (ua12 : PySem.W.nsIn K mainGlobals "NotNear" = some (some (.ref U12)))
    (ua13 : PySem.W.nsIn K mainGlobals "TooFew" = some (some (.ref U13)))
    (ua14 : PySem.W.nsIn K mainGlobals "Unlike" = some (some (.ref U14)))
    (lb : PySem.W.subIn K (.ref U0) (.type "BaseException") = some true) (ld : PySem.W.hasDictIn K U0 = true) (lt : PySem.W.typeIn K (.ref U0) = some (.type "type"))
    (q11 : PySem.W.findIn K (.ref U1) "__getattribute__" = some (some (.builtin "BaseException.__getattribute__"))) (q21 : PySem.W.findIn K (.ref U1) "__getattr__" = some none) (q31 : PySem.W.subIn K (.ref U1) (.type "BaseException") = some true) (q41 : PySem.W.hasDictIn K U1 = true) (q51 : PySem.W.findIn K (.ref U1) "__class__" = some (some (.builtin "object.__class__"))) (q81 : PySem.W.mroIn K U1 (.type "object") = some true) (q91 : PySem.W.subIn K (.ref U1) (.ref U0) = some true) (qv1 : PySem.W.kitOne K (.ref U1) (.type "ValueError") = some true)
    (k1_1 : PySem.W.kitOne K (.ref U1) (.ref U1) = some true)
    (k1_2 : PySem.W.kitOne K (.ref U1) (.ref U2) = some false)
    (k1_3 : PySem.W.kitOne K (.ref U1) (.ref U3) = some false)
    (k1_4 : PySem.W.kitOne K (.ref U1) (.ref U4) = some false)
    (k1_5 : PySem.W.kitOne K (.ref U1) (.ref U5) = some false)
    (k1_6 : PySem.W.kitOne K (.ref U1) (.ref U6) = some false)
    (k1_7 : PySem.W.kitOne K (.ref U1) (.ref U7) = some false)
    (k1_8 : PySem.W.kitOne K (.ref U1) (.ref U8) = some false)
    (k1_9 : PySem.W.kitOne K (.ref U1) (.ref U9) = some false)
    (k1_10 : PySem.W.kitOne K (.ref U1) (.ref U10) = some false)
    (k1_11 : PySem.W.kitOne K (.ref U1) (.ref U11) = some false)
    (k1_12 : PySem.W.kitOne K (.ref U1) (.ref U12) = some false)
    (k1_13 : PySem.W.kitOne K (.ref U1) (.ref U13) = some false)
    (k1_14 : PySem.W.kitOne K (.ref U1) (.ref U14) = some false)
    (q12 : PySem.W.findIn K (.ref U2) "__getattribute__" = some (some (.builtin "BaseException.__getattribute__"))) (q22 : PySem.W.findIn K (.ref U2) "__getattr__" = some none) (q32 : PySem.W.subIn K (.ref U2) (.type "BaseException") = some true) (q42 : PySem.W.hasDictIn K U2 = true) (q52 : PySem.W.findIn K (.ref U2) "__class__" = some (some (.builtin "object.__class__"))) (q82 : PySem.W.mroIn K U2 (.type "object") = some true) (q92 : PySem.W.subIn K (.ref U2) (.ref U0) = some true) (qv2 : PySem.W.kitOne K (.ref U2) (.type "ValueError") = some true)
    (k2_1 : PySem.W.kitOne K (.ref U2) (.ref U1) = some false)
    (k2_2 : PySem.W.kitOne K (.ref U2) (.ref U2) = some true)
    (k2_3 : PySem.W.kitOne K (.ref U2) (.ref U3) = some false)
    (k2_4 : PySem.W.kitOne K (.ref U2) (.ref U4) = some false)
    (k2_5 : PySem.W.kitOne K (.ref U2) (.ref U5) = some false)
    (k2_6 : PySem.W.kitOne K (.ref U2) (.ref U6) = some false)
    (k2_7 : PySem.W.kitOne K (.ref U2) (.ref U7) = some false)
    (k2_8 : PySem.W.kitOne K (.ref U2) (.ref U8) = some false)
    (k2_9 : PySem.W.kitOne K (.ref U2) (.ref U9) = some false)
    (k2_10 : PySem.W.kitOne K (.ref U2) (.ref U10) = some false)
    (k2_11 : PySem.W.kitOne K (.ref U2) (.ref U11) = some false)
    (k2_12 : PySem.W.kitOne K (.ref U2) (.ref U12) = some false)
    (k2_13 : PySem.W.kitOne K (.ref U2) (.ref U13) = some false)
    (k2_14 : PySem.W.kitOne K (.ref U2) (.ref U14) = some false)
    (q14 : PySem.W.findIn K (.ref U4) "__getattribute__" = some (some (.builtin "BaseException.__getattribute__"))) (q24 : PySem.W.findIn K (.ref U4) "__getattr__" = some none) (q34 : PySem.W.subIn K (.ref U4) (.type "BaseException") = some true) (q44 : PySem.W.hasDictIn K U4 = true) (q54 : PySem.W.findIn K (.ref U4) "__class__" = some (some (.builtin "object.__class__"))) (q84 : PySem.W.mroIn K U4 (.type "object") = some true) (q94 : PySem.W.subIn K (.ref U4) (.ref U0) = some true) (qv4 : PySem.W.kitOne K (.ref U4) (.type "ValueError") = some true)
    (k4_1 : PySem.W.kitOne K (.ref U4) (.ref U1) = some false)
    (k4_2 : PySem.W.kitOne K (.ref U4) (.ref U2) = some false)
    (k4_3 : PySem.W.kitOne K (.ref U4) (.ref U3) = some false)
    (k4_4 : PySem.W.kitOne K (.ref U4) (.ref U4) = some true)
    (k4_5 : PySem.W.kitOne K (.ref U4) (.ref U5) = some false)
    (k4_6 : PySem.W.kitOne K (.ref U4) (.ref U6) = some false)
    (k4_7 : PySem.W.kitOne K (.ref U4) (.ref U7) = some false)
    (k4_8 : PySem.W.kitOne K (.ref U4) (.ref U8) = some false)
    (k4_9 : PySem.W.kitOne K (.ref U4) (.ref U9) = some false)
    (k4_10 : PySem.W.kitOne K (.ref U4) (.ref U10) = some false)
    (k4_11 : PySem.W.kitOne K (.ref U4) (.ref U11) = some false)
    (k4_12 : PySem.W.kitOne K (.ref U4) (.ref U12) = some false)
    (k4_13 : PySem.W.kitOne K (.ref U4) (.ref U13) = some false)
    (k4_14 : PySem.W.kitOne K (.ref U4) (.ref U14) = some false)
    (q15 : PySem.W.findIn K (.ref U5) "__getattribute__" = some (some (.builtin "BaseException.__getattribute__"))) (q25 : PySem.W.findIn K (.ref U5) "__getattr__" = some none) (q35 : PySem.W.subIn K (.ref U5) (.type "BaseException") = some true) (q45 : PySem.W.hasDictIn K U5 = true) (q55 : PySem.W.findIn K (.ref U5) "__class__" = some (some (.builtin "object.__class__"))) (q85 : PySem.W.mroIn K U5 (.type "object") = some true) (q95 : PySem.W.subIn K (.ref U5) (.ref U0) = some true) (qv5 : PySem.W.kitOne K (.ref U5) (.type "ValueError") = some true)
    (k5_1 : PySem.W.kitOne K (.ref U5) (.ref U1) = some false)
    (k5_2 : PySem.W.kitOne K (.ref U5) (.ref U2) = some false)
    (k5_3 : PySem.W.kitOne K (.ref U5) (.ref U3) = some false)
    (k5_4 : PySem.W.kitOne K (.ref U5) (.ref U4) = some false)
    (k5_5 : PySem.W.kitOne K (.ref U5) (.ref U5) = some true)
    (k5_6 : PySem.W.kitOne K (.ref U5) (.ref U6) = some false)
    (k5_7 : PySem.W.kitOne K (.ref U5) (.ref U7) = some false)
    (k5_8 : PySem.W.kitOne K (.ref U5) (.ref U8) = some false)
    (k5_9 : PySem.W.kitOne K (.ref U5) (.ref U9) = some false)
    (k5_10 : PySem.W.kitOne K (.ref U5) (.ref U10) = some false)
    (k5_11 : PySem.W.kitOne K (.ref U5) (.ref U11) = some false)
    (k5_12 : PySem.W.kitOne K (.ref U5) (.ref U12) = some false)
    (k5_13 : PySem.W.kitOne K (.ref U5) (.ref U13) = some false)
    (k5_14 : PySem.W.kitOne K (.ref U5) (.ref U14) = some false)
    (q17 : PySem.W.findIn K (.ref U7) "__getattribute__" = some (some (.builtin "BaseException.__getattribute__"))) (q27 : PySem.W.findIn K (.ref U7) "__getattr__" = some none) (q37 : PySem.W.subIn K (.ref U7) (.type "BaseException") = some true) (q47 : PySem.W.hasDictIn K U7 = true) (q57 : PySem.W.findIn K (.ref U7) "__class__" = some (some (.builtin "object.__class__"))) (q87 : PySem.W.mroIn K U7 (.type "object") = some true) (q97 : PySem.W.subIn K (.ref U7) (.ref U0) = some true) (qv7 : PySem.W.kitOne K (.ref U7) (.type "ValueError") = some true)
    (k7_1 : PySem.W.kitOne K (.ref U7) (.ref U1) = some false)
    (k7_2 : PySem.W.kitOne K (.ref U7) (.ref U2) = some false)
    (k7_3 : PySem.W.kitOne K (.ref U7) (.ref U3) = some false)
    (k7_4 : PySem.W.kitOne K (.ref U7) (.ref U4) = some false)
    (k7_5 : PySem.W.kitOne K (.ref U7) (.ref U5) = some false)
    (k7_6 : PySem.W.kitOne K (.ref U7) (.ref U6) = some false)
    (k7_7 : PySem.W.kitOne K (.ref U7) (.ref U7) = some true)
    (k7_8 : PySem.W.kitOne K (.ref U7) (.ref U8) = some false)
    (k7_9 : PySem.W.kitOne K (.ref U7) (.ref U9) = some false)
    (k7_10 : PySem.W.kitOne K (.ref U7) (.ref U10) = some false)
    (k7_11 : PySem.W.kitOne K (.ref U7) (.ref U11) = some false)
    (k7_12 : PySem.W.kitOne K (.ref U7) (.ref U12) = some false)
    (k7_13 : PySem.W.kitOne K (.ref U7) (.ref U13) = some false)
    (k7_14 : PySem.W.kitOne K (.ref U7) (.ref U14) = some false)
    (q19 : PySem.W.findIn K (.ref U9) "__getattribute__" = some (some (.builtin "BaseException.__getattribute__"))) (q29 : PySem.W.findIn K (.ref U9) "__getattr__" = some none) (q39 : PySem.W.subIn K (.ref U9) (.type "BaseException") = some true) (q49 : PySem.W.hasDictIn K U9 = true) (q59 : PySem.W.findIn K (.ref U9) "__class__" = some (some (.builtin "object.__class__"))) (q89 : PySem.W.mroIn K U9 (.type "object") = some true) (q99 : PySem.W.subIn K (.ref U9) (.ref U0) = some true) (qv9 : PySem.W.kitOne K (.ref U9) (.type "ValueError") = some true)
    (k9_1 : PySem.W.kitOne K (.ref U9) (.ref U1) = some false)
    (k9_2 : PySem.W.kitOne K (.ref U9) (.ref U2) = some false)
    (k9_3 : PySem.W.kitOne K (.ref U9) (.ref U3) = some false)
    (k9_4 : PySem.W.kitOne K (.ref U9) (.ref U4) = some false)
    (k9_5 : PySem.W.kitOne K (.ref U9) (.ref U5) = some false)
    (k9_6 : PySem.W.kitOne K (.ref U9) (.ref U6) = some false)
    (k9_7 : PySem.W.kitOne K (.ref U9) (.ref U7) = some false)
    (k9_8 : PySem.W.kitOne K (.ref U9) (.ref U8) = some false)
    (k9_9 : PySem.W.kitOne K (.ref U9) (.ref U9) = some true)
    (k9_10 : PySem.W.kitOne K (.ref U9) (.ref U10) = some false)
    (k9_11 : PySem.W.kitOne K (.ref U9) (.ref U11) = some false)
    (k9_12 : PySem.W.kitOne K (.ref U9) (.ref U12) = some false)
    (k9_13 : PySem.W.kitOne K (.ref U9) (.ref U13) = some false)
    (k9_14 : PySem.W.kitOne K (.ref U9) (.ref U14) = some false)
    (q6 : PySem.W.specialIn K (.builtin "object.__class__") "__get__" = some (some (.builtin "getset_descriptor.__get__"))) (q7 : PySem.W.takesIn K (.builtin "object.__class__") = some true)
    : ∃ fd : FuncData, (∀ (s : Shared) (v : Value), BindsTo s fd ⟨[v], []⟩ [("_law_script", v)]) ∧ ∀ base : Heap, K.In base → base.Ns mainGlobals mg → FnOk l.prog w K mg base (L2N.CX l.prog w) 22 fa fd ["_law_script"] (spLaw K) := by
  have e := hfa.symm.trans (PySem.W.mg_of X G a36)
  cases e
  have B : Tx K mg := ⟨defE_mk X G a0 l0 c0 k0 fun _ _ _ _ _ _ us hl => match us, hl with | [_], _ => rfl,
    defE_mk X G a1 l1 c1 k1 fun _ _ _ _ _ _ us hl => match us, hl with | [_], _ => rfl,
    defE_mk X G a2 l2 c2 k2 fun _ _ _ _ _ _ us hl => match us, hl with | [_, _], _ => rfl,
    defE_mk X G a3 l3 c3 k3 fun _ _ _ _ _ _ us hl => match us, hl with | [_, _], _ => rfl,
    defE_mk X G a4 l4 c4 k4 fun _ _ _ _ _ _ us hl => match us, hl with | [_, _, _], _ => rfl,
    defE_mk X G a5 l5 c5 k5 fun _ _ _ _ _ _ us hl => match us, hl with | [_, _, _, _], _ => rfl,
    defE_mk X G a6 l6 c6 k6 fun _ _ _ _ _ _ us hl => match us, hl with | [_], _ => rfl,
    defE_mk X G a7 l7 c7 k7 fun _ _ _ _ _ _ us hl => match us, hl with | [_], _ => rfl,
    defE_mk X G a8 l8 c8 k8 fun _ _ _ _ _ _ us hl => match us, hl with | [_, _], _ => rfl,
    defE_mk X G a9 l9 c9 k9 fun _ _ _ _ _ _ us hl => match us, hl with | [_], _ => rfl,
    defE_mk X G a10 l10 c10 k10 fun _ _ _ _ _ _ us hl => match us, hl with | [_, _], _ => rfl,
    defE_mk X G a11 l11 c11 k11 fun _ _ _ _ _ _ us hl => match us, hl with | [_, _], _ => rfl,
    defE_mk X G a12 l12 c12 k12 fun _ _ _ _ _ _ us hl => match us, hl with | [_, _], _ => rfl,
    defE_mk X G a13 l13 c13 k13 fun _ _ _ _ _ _ us hl => match us, hl with | [_, _, _], _ => rfl,
    defE_mk X G a14 l14 c14 k14 fun _ _ _ _ _ _ us hl => match us, hl with | [_, _, _], _ => rfl,
    defE_mk X G a15 l15 c15 k15 fun _ _ _ _ _ _ us hl => match us, hl with | [_, _, _], _ => rfl,
    defE_mk X G a16 l16 c16 k16 fun _ _ _ _ _ _ us hl => match us, hl with | [_, _, _, _, _], _ => rfl,
    defE_mk X G a17 l17 c17 k17 fun _ _ _ _ _ _ us hl => match us, hl with | [_, _, _], _ => rfl,
    defE_mk X G a18 l18 c18 k18 fun _ _ _ _ _ _ us hl => match us, hl with | [_, _, _], _ => rfl,
    defE_mk X G a19 l19 c19 k19 fun _ _ _ _ _ _ us hl => match us, hl with | [_, _], _ => rfl,
    defE_mk X G a20 l20 c20 k20 fun _ _ _ _ _ _ us hl => match us, hl with | [_, _, _, _], _ => rfl,
    defE_mk X G a21 l21 c21 k21 fun _ _ _ _ _ _ us hl => match us, hl with | [_, _], _ => rfl,
    defE_mk X G a22 l22 c22 k22 fun _ _ _ _ _ _ us hl => match us, hl with | [_], _ => rfl,
    defE_mk X G a23 l23 c23 k23 fun _ _ _ _ _ _ us hl => match us, hl with | [_, _], _ => rfl,
    defE_mk X G a24 l24 c24 k24 fun _ _ _ _ _ _ us hl => match us, hl with | [_, _], _ => rfl,
    defE_mk X G a25 l25 c25 k25 fun _ _ _ _ _ _ us hl => match us, hl with | [_, _], _ => rfl,
    defE_mk X G a26 l26 c26 k26 fun _ _ _ _ _ _ us hl => match us, hl with | [_], _ => rfl,
    defE_mk X G a27 l27 c27 k27 fun _ _ _ _ _ _ us hl => match us, hl with | [_], _ => rfl,
    defE_mk X G a28 l28 c28 k28 fun _ _ _ _ _ _ us hl => match us, hl with | [_], _ => rfl,
    defE_mk X G a29 l29 c29 k29 fun _ _ _ _ _ _ us hl => match us, hl with | [_], _ => rfl,
    defE_mk X G a30 l30 c30 k30 fun _ _ _ _ _ _ us hl => match us, hl with | [_, _, _], _ => rfl,
    defE_mk X G a31 l31 c31 k31 fun _ _ _ _ _ _ us hl => match us, hl with | [_, _], _ => rfl,
    defE_mk X G a32 l32 c32 k32 fun _ _ _ _ _ _ us hl => match us, hl with | [_, _, _, _, _], _ => rfl,
    defE_mk X G a33 l33 c33 k33 fun _ _ _ _ _ _ us hl => match us, hl with | [_], _ => rfl,
    defE_mk X G a34 l34 c34 k34 fun _ _ _ _ _ _ us hl => match us, hl with | [_, _, _, _], _ => rfl,
    defE_mk X G a35 l35 c35 k35 fun _ _ _ _ _ _ us hl => match us, hl with | [_, _, _, _, _], _ => rfl,
    PySem.W.mg_none_of X G z0,
    PySem.W.mg_none_of X G z1,
    PySem.W.mg_none_of X G z2,
    PySem.W.mg_none_of X G z3,
    PySem.W.mg_none_of X G z4,
    PySem.W.mg_none_of X G z5,
    PySem.W.mg_none_of X G z6,
    PySem.W.mg_none_of X G z7,
    PySem.W.mg_none_of X G z8,
    PySem.W.mg_none_of X G z9,
    PySem.W.mg_none_of X G z10,
    PySem.W.mg_none_of X G z11,
    PySem.W.mg_none_of X G z12,
    glI_mk X G g0,
    glI_mk X G g1,
    glI_mk X G g2,
    glI_mk X G g3,
    glI_mk X G g4,
    excE_mk X G xa0 xe0 xk0 xs0 xt0,
    excE_mk X G xa1 xe1 xk1 xs1 xt1,
    excE_mk X G xa2 xe2 xk2 xs2 xt2,
    excE_mk X G xa3 xe3 xk3 xs3 xt3,
    excE_mk X G xa4 xe4 xk4 xs4 xt4,
    excE_mk X G xa5 xe5 xk5 xs5 xt5,
    ⟨U0, PySem.W.mg_of X G ua0⟩,
    ⟨U1, PySem.W.mg_of X G ua1⟩,
    ⟨U2, PySem.W.mg_of X G ua2⟩,
    ⟨U3, PySem.W.mg_of X G ua3⟩,
    ⟨U4, PySem.W.mg_of X G ua4⟩,
    ⟨U5, PySem.W.mg_of X G ua5⟩,
    ⟨U6, PySem.W.mg_of X G ua6⟩,
    ⟨U7, PySem.W.mg_of X G ua7⟩,
    ⟨U8, PySem.W.mg_of X G ua8⟩,
    ⟨U9, PySem.W.mg_of X G ua9⟩,
    ⟨U10, PySem.W.mg_of X G ua10⟩,
    ⟨U11, PySem.W.mg_of X G ua11⟩,
    ⟨U12, PySem.W.mg_of X G ua12⟩,
    ⟨U13, PySem.W.mg_of X G ua13⟩,
    ⟨U14, PySem.W.mg_of X G ua14⟩,
    (fa_cons (fa_cons (kq_mk X G ua1 ua1 k1_1 (by decide)) (fa_cons (kq_mk X G ua1 ua2 k1_2 (by decide)) (fa_cons (kq_mk X G ua1 ua3 k1_3 (by decide)) (fa_cons (kq_mk X G ua1 ua4 k1_4 (by decide)) (fa_cons (kq_mk X G ua1 ua5 k1_5 (by decide)) (fa_cons (kq_mk X G ua1 ua6 k1_6 (by decide)) (fa_cons (kq_mk X G ua1 ua7 k1_7 (by decide)) (fa_cons (kq_mk X G ua1 ua8 k1_8 (by decide)) (fa_cons (kq_mk X G ua1 ua9 k1_9 (by decide)) (fa_cons (kq_mk X G ua1 ua10 k1_10 (by decide)) (fa_cons (kq_mk X G ua1 ua11 k1_11 (by decide)) (fa_cons (kq_mk X G ua1 ua12 k1_12 (by decide)) (fa_cons (kq_mk X G ua1 ua13 k1_13 (by decide)) (fa_cons (kq_mk X G ua1 ua14 k1_14 (by decide)) fa_nil)))))))))))))) (fa_cons (fa_cons (kq_mk X G ua2 ua1 k2_1 (by decide)) (fa_cons (kq_mk X G ua2 ua2 k2_2 (by decide)) (fa_cons (kq_mk X G ua2 ua3 k2_3 (by decide)) (fa_cons (kq_mk X G ua2 ua4 k2_4 (by decide)) (fa_cons (kq_mk X G ua2 ua5 k2_5 (by decide)) (fa_cons (kq_mk X G ua2 ua6 k2_6 (by decide)) (fa_cons (kq_mk X G ua2 ua7 k2_7 (by decide)) (fa_cons (kq_mk X G ua2 ua8 k2_8 (by decide)) (fa_cons (kq_mk X G ua2 ua9 k2_9 (by decide)) (fa_cons (kq_mk X G ua2 ua10 k2_10 (by decide)) (fa_cons (kq_mk X G ua2 ua11 k2_11 (by decide)) (fa_cons (kq_mk X G ua2 ua12 k2_12 (by decide)) (fa_cons (kq_mk X G ua2 ua13 k2_13 (by decide)) (fa_cons (kq_mk X G ua2 ua14 k2_14 (by decide)) fa_nil)))))))))))))) (fa_cons (fa_cons (kq_mk X G ua4 ua1 k4_1 (by decide)) (fa_cons (kq_mk X G ua4 ua2 k4_2 (by decide)) (fa_cons (kq_mk X G ua4 ua3 k4_3 (by decide)) (fa_cons (kq_mk X G ua4 ua4 k4_4 (by decide)) (fa_cons (kq_mk X G ua4 ua5 k4_5 (by decide)) (fa_cons (kq_mk X G ua4 ua6 k4_6 (by decide)) (fa_cons (kq_mk X G ua4 ua7 k4_7 (by decide)) (fa_cons (kq_mk X G ua4 ua8 k4_8 (by decide)) (fa_cons (kq_mk X G ua4 ua9 k4_9 (by decide)) (fa_cons (kq_mk X G ua4 ua10 k4_10 (by decide)) (fa_cons (kq_mk X G ua4 ua11 k4_11 (by decide)) (fa_cons (kq_mk X G ua4 ua12 k4_12 (by decide)) (fa_cons (kq_mk X G ua4 ua13 k4_13 (by decide)) (fa_cons (kq_mk X G ua4 ua14 k4_14 (by decide)) fa_nil)))))))))))))) (fa_cons (fa_cons (kq_mk X G ua5 ua1 k5_1 (by decide)) (fa_cons (kq_mk X G ua5 ua2 k5_2 (by decide)) (fa_cons (kq_mk X G ua5 ua3 k5_3 (by decide)) (fa_cons (kq_mk X G ua5 ua4 k5_4 (by decide)) (fa_cons (kq_mk X G ua5 ua5 k5_5 (by decide)) (fa_cons (kq_mk X G ua5 ua6 k5_6 (by decide)) (fa_cons (kq_mk X G ua5 ua7 k5_7 (by decide)) (fa_cons (kq_mk X G ua5 ua8 k5_8 (by decide)) (fa_cons (kq_mk X G ua5 ua9 k5_9 (by decide)) (fa_cons (kq_mk X G ua5 ua10 k5_10 (by decide)) (fa_cons (kq_mk X G ua5 ua11 k5_11 (by decide)) (fa_cons (kq_mk X G ua5 ua12 k5_12 (by decide)) (fa_cons (kq_mk X G ua5 ua13 k5_13 (by decide)) (fa_cons (kq_mk X G ua5 ua14 k5_14 (by decide)) fa_nil)))))))))))))) (fa_cons (fa_cons (kq_mk X G ua7 ua1 k7_1 (by decide)) (fa_cons (kq_mk X G ua7 ua2 k7_2 (by decide)) (fa_cons (kq_mk X G ua7 ua3 k7_3 (by decide)) (fa_cons (kq_mk X G ua7 ua4 k7_4 (by decide)) (fa_cons (kq_mk X G ua7 ua5 k7_5 (by decide)) (fa_cons (kq_mk X G ua7 ua6 k7_6 (by decide)) (fa_cons (kq_mk X G ua7 ua7 k7_7 (by decide)) (fa_cons (kq_mk X G ua7 ua8 k7_8 (by decide)) (fa_cons (kq_mk X G ua7 ua9 k7_9 (by decide)) (fa_cons (kq_mk X G ua7 ua10 k7_10 (by decide)) (fa_cons (kq_mk X G ua7 ua11 k7_11 (by decide)) (fa_cons (kq_mk X G ua7 ua12 k7_12 (by decide)) (fa_cons (kq_mk X G ua7 ua13 k7_13 (by decide)) (fa_cons (kq_mk X G ua7 ua14 k7_14 (by decide)) fa_nil)))))))))))))) (fa_cons (fa_cons (kq_mk X G ua9 ua1 k9_1 (by decide)) (fa_cons (kq_mk X G ua9 ua2 k9_2 (by decide)) (fa_cons (kq_mk X G ua9 ua3 k9_3 (by decide)) (fa_cons (kq_mk X G ua9 ua4 k9_4 (by decide)) (fa_cons (kq_mk X G ua9 ua5 k9_5 (by decide)) (fa_cons (kq_mk X G ua9 ua6 k9_6 (by decide)) (fa_cons (kq_mk X G ua9 ua7 k9_7 (by decide)) (fa_cons (kq_mk X G ua9 ua8 k9_8 (by decide)) (fa_cons (kq_mk X G ua9 ua9 k9_9 (by decide)) (fa_cons (kq_mk X G ua9 ua10 k9_10 (by decide)) (fa_cons (kq_mk X G ua9 ua11 k9_11 (by decide)) (fa_cons (kq_mk X G ua9 ua12 k9_12 (by decide)) (fa_cons (kq_mk X G ua9 ua13 k9_13 (by decide)) (fa_cons (kq_mk X G ua9 ua14 k9_14 (by decide)) fa_nil)))))))))))))) fa_nil)))))),
    (fa_cons (kv_mk X G ua1 qv1) (fa_cons (kv_mk X G ua2 qv2) (fa_cons (kv_mk X G ua4 qv4) (fa_cons (kv_mk X G ua5 qv5) (fa_cons (kv_mk X G ua7 qv7) (fa_cons (kv_mk X G ua9 qv9) fa_nil)))))),
    (fa_cons (ke_mk X G ua1 ua0 lb ld lt q91 ⟨q11, q21, q31, q41, q51, q6, q7, q81⟩) (fa_cons (ke_mk X G ua2 ua0 lb ld lt q92 ⟨q12, q22, q32, q42, q52, q6, q7, q82⟩) (fa_cons (ke_mk X G ua4 ua0 lb ld lt q94 ⟨q14, q24, q34, q44, q54, q6, q7, q84⟩) (fa_cons (ke_mk X G ua5 ua0 lb ld lt q95 ⟨q15, q25, q35, q45, q55, q6, q7, q85⟩) (fa_cons (ke_mk X G ua7 ua0 lb ld lt q97 ⟨q17, q27, q37, q47, q57, q6, q7, q87⟩) (fa_cons (ke_mk X G ua9 ua0 lb ld lt q99 ⟨q19, q29, q39, q49, q59, q6, q7, q89⟩) fa_nil))))))⟩
  exact ⟨_, fun s v => .of_eq rfl, fun base _ _ => law_impB law_true (fn_mk (fun_mk (st := st_law) l36 c36 k36) sc_law rfl (fun z => nomatch z) fun cdv A outer s H E hr => bd_law B hr)⟩
end K68
open PySem PySem.W PyProof.Rows
set_option maxHeartbeats 0 in
theorem PySem.Challenge.cw_leftnumbers_k68_refused_trees_holds : PySem.Challenge.rw_leftnumbers_k68_refused_trees.Holds := by
  w_on; o_law; k_head; (case hw => w_witness2)
  k_fill
  refine L2.walk_ofB (l := PySem.Challenge.rw_leftnumbers_k68_refused_trees) (n := 63) (k := 22) (x := "_law_script") (CX := fun w => L2N.CX PySem.Challenge.rw_leftnumbers_k68_refused_trees.prog w) (sp := fun w => PL.spLaw _) rfl (by decide) rfl ⟨rfl, by decide, by decide⟩ (fun w h Y => PySem.W.kIn_of Y) ?F (fun _ _ a ns hl hB hO hS => ⟨a, ns, rfl, hS, hO, hl, hB, fun _ _ e => e⟩) (fun _ _ _ _ _ h => PL.cx_none h)
  case F =>
    intro w mg fa h KX G hmg
    refine' K68.all_mk KX G hmg ?pl_a0 ?pl_l0 ?pl_c0 ?pl_k0 ?pl_a1 ?pl_l1 ?pl_c1 ?pl_k1 ?pl_a2 ?pl_l2 ?pl_c2 ?pl_k2 ?pl_a3 ?pl_l3 ?pl_c3 ?pl_k3 ?pl_a4 ?pl_l4 ?pl_c4 ?pl_k4 ?pl_a5 ?pl_l5 ?pl_c5 ?pl_k5 ?pl_a6 ?pl_l6 ?pl_c6 ?pl_k6 ?pl_a7 ?pl_l7 ?pl_c7 ?pl_k7 ?pl_a8 ?pl_l8 ?pl_c8 ?pl_k8 ?pl_a9 ?pl_l9 ?pl_c9 ?pl_k9 ?pl_a10 ?pl_l10 ?pl_c10 ?pl_k10 ?pl_a11 ?pl_l11 ?pl_c11 ?pl_k11 ?pl_a12 ?pl_l12 ?pl_c12 ?pl_k12 ?pl_a13 ?pl_l13 ?pl_c13 ?pl_k13 ?pl_a14 ?pl_l14 ?pl_c14 ?pl_k14 ?pl_a15 ?pl_l15 ?pl_c15 ?pl_k15 ?pl_a16 ?pl_l16 ?pl_c16 ?pl_k16 ?pl_a17 ?pl_l17 ?pl_c17 ?pl_k17 ?pl_a18 ?pl_l18 ?pl_c18 ?pl_k18 ?pl_a19 ?pl_l19 ?pl_c19 ?pl_k19 ?pl_a20 ?pl_l20 ?pl_c20 ?pl_k20 ?pl_a21 ?pl_l21 ?pl_c21 ?pl_k21 ?pl_a22 ?pl_l22 ?pl_c22 ?pl_k22 ?pl_a23 ?pl_l23 ?pl_c23 ?pl_k23 ?pl_a24 ?pl_l24 ?pl_c24 ?pl_k24 ?pl_a25 ?pl_l25 ?pl_c25 ?pl_k25 ?pl_a26 ?pl_l26 ?pl_c26 ?pl_k26 ?pl_a27 ?pl_l27 ?pl_c27 ?pl_k27 ?pl_a28 ?pl_l28 ?pl_c28 ?pl_k28 ?pl_a29 ?pl_l29 ?pl_c29 ?pl_k29 ?pl_a30 ?pl_l30 ?pl_c30 ?pl_k30 ?pl_a31 ?pl_l31 ?pl_c31 ?pl_k31 ?pl_a32 ?pl_l32 ?pl_c32 ?pl_k32 ?pl_a33 ?pl_l33 ?pl_c33 ?pl_k33 ?pl_a34 ?pl_l34 ?pl_c34 ?pl_k34 ?pl_a35 ?pl_l35 ?pl_c35 ?pl_k35 ?pl_a36 ?pl_l36 ?pl_c36 ?pl_k36 ?pl_z0 ?pl_z1 ?pl_z2 ?pl_z3 ?pl_z4 ?pl_z5 ?pl_z6 ?pl_z7 ?pl_z8 ?pl_z9 ?pl_z10 ?pl_z11 ?pl_z12 ?pl_g0 ?pl_g1 ?pl_g2 ?pl_g3 ?pl_g4 ?pl_xa0 ?pl_xe0 ?pl_xk0 ?pl_xs0 ?pl_xt0 ?pl_xa1 ?pl_xe1 ?pl_xk1 ?pl_xs1 ?pl_xt1 ?pl_xa2 ?pl_xe2 ?pl_xk2 ?pl_xs2 ?pl_xt2 ?pl_xa3 ?pl_xe3 ?pl_xk3 ?pl_xs3 ?pl_xt3 ?pl_xa4 ?pl_xe4 ?pl_xk4 ?pl_xs4 ?pl_xt4 ?pl_xa5 ?pl_xe5 ?pl_xk5 ?pl_xs5 ?pl_xt5 ?pl_ua0 ?pl_ua1 ?pl_ua2 ?pl_ua3 ?pl_ua4 ?pl_ua5 ?pl_ua6 ?pl_ua7 ?pl_ua8 ?pl_ua9 ?pl_ua10 ?pl_ua11 ?pl_ua12 ?pl_ua13 ?pl_ua14 ?pl_lb ?pl_ld ?pl_lt ?pl_q11 ?pl_q21 ?pl_q31 ?pl_q41 ?pl_q51 ?pl_q81 ?pl_q91 ?pl_qv1 ?pl_k1_1 ?pl_k1_2 ?pl_k1_3 ?pl_k1_4 ?pl_k1_5 ?pl_k1_6 ?pl_k1_7 ?pl_k1_8 ?pl_k1_9 ?pl_k1_10 ?pl_k1_11 ?pl_k1_12 ?pl_k1_13 ?pl_k1_14 ?pl_q12 ?pl_q22 ?pl_q32 ?pl_q42 ?pl_q52 ?pl_q82 ?pl_q92 ?pl_qv2 ?pl_k2_1 ?pl_k2_2 ?pl_k2_3 ?pl_k2_4 ?pl_k2_5 ?pl_k2_6 ?pl_k2_7 ?pl_k2_8 ?pl_k2_9 ?pl_k2_10 ?pl_k2_11 ?pl_k2_12 ?pl_k2_13 ?pl_k2_14 ?pl_q14 ?pl_q24 ?pl_q34 ?pl_q44 ?pl_q54 ?pl_q84 ?pl_q94 ?pl_qv4 ?pl_k4_1 ?pl_k4_2 ?pl_k4_3 ?pl_k4_4 ?pl_k4_5 ?pl_k4_6 ?pl_k4_7 ?pl_k4_8 ?pl_k4_9 ?pl_k4_10 ?pl_k4_11 ?pl_k4_12 ?pl_k4_13 ?pl_k4_14 ?pl_q15 ?pl_q25 ?pl_q35 ?pl_q45 ?pl_q55 ?pl_q85 ?pl_q95 ?pl_qv5 ?pl_k5_1 ?pl_k5_2 ?pl_k5_3 ?pl_k5_4 ?pl_k5_5 ?pl_k5_6 ?pl_k5_7 ?pl_k5_8 ?pl_k5_9 ?pl_k5_10 ?pl_k5_11 ?pl_k5_12 ?pl_k5_13 ?pl_k5_14 ?pl_q17 ?pl_q27 ?pl_q37 ?pl_q47 ?pl_q57 ?pl_q87 ?pl_q97 ?pl_qv7 ?pl_k7_1 ?pl_k7_2 ?pl_k7_3 ?pl_k7_4 ?pl_k7_5 ?pl_k7_6 ?pl_k7_7 ?pl_k7_8 ?pl_k7_9 ?pl_k7_10 ?pl_k7_11 ?pl_k7_12 ?pl_k7_13 ?pl_k7_14 ?pl_q19 ?pl_q29 ?pl_q39 ?pl_q49 ?pl_q59 ?pl_q89 ?pl_q99 ?pl_qv9 ?pl_k9_1 ?pl_k9_2 ?pl_k9_3 ?pl_k9_4 ?pl_k9_5 ?pl_k9_6 ?pl_k9_7 ?pl_k9_8 ?pl_k9_9 ?pl_k9_10 ?pl_k9_11 ?pl_k9_12 ?pl_k9_13 ?pl_k9_14 ?pl_q6 ?pl_q7
    (case pl_a0 => k_is)
    (case pl_l0 => k_is)
    (case pl_c0 => k_is)
    (case pl_k0 => k_is)
    (case pl_a1 => k_is)
    (case pl_l1 => k_is)
    (case pl_c1 => k_is)
    (case pl_k1 => k_is)
    (case pl_a2 => k_is)
    (case pl_l2 => k_is)
    (case pl_c2 => k_is)
    (case pl_k2 => k_is)
    (case pl_a3 => k_is)
    (case pl_l3 => k_is)
    (case pl_c3 => k_is)
    (case pl_k3 => k_is)
    (case pl_a4 => k_is)
    (case pl_l4 => k_is)
    (case pl_c4 => k_is)
    (case pl_k4 => k_is)
    (case pl_a5 => k_is)
    (case pl_l5 => k_is)
    (case pl_c5 => k_is)
    (case pl_k5 => k_is)
    (case pl_a6 => k_is)
    (case pl_l6 => k_is)
    (case pl_c6 => k_is)
    (case pl_k6 => k_is)
    (case pl_a7 => k_is)
    (case pl_l7 => k_is)
    (case pl_c7 => k_is)
    (case pl_k7 => k_is)
    (case pl_a8 => k_is)
    (case pl_l8 => k_is)
    (case pl_c8 => k_is)
    (case pl_k8 => k_is)
    (case pl_a9 => k_is)
    (case pl_l9 => k_is)
    (case pl_c9 => k_is)
    (case pl_k9 => k_is)
    (case pl_a10 => k_is)
    (case pl_l10 => k_is)
    (case pl_c10 => k_is)
    (case pl_k10 => k_is)
    (case pl_a11 => k_is)
    (case pl_l11 => k_is)
    (case pl_c11 => k_is)
    (case pl_k11 => k_is)
    (case pl_a12 => k_is)
    (case pl_l12 => k_is)
    (case pl_c12 => k_is)
    (case pl_k12 => k_is)
    (case pl_a13 => k_is)
    (case pl_l13 => k_is)
    (case pl_c13 => k_is)
    (case pl_k13 => k_is)
    (case pl_a14 => k_is)
    (case pl_l14 => k_is)
    (case pl_c14 => k_is)
    (case pl_k14 => k_is)
    (case pl_a15 => k_is)
    (case pl_l15 => k_is)
    (case pl_c15 => k_is)
    (case pl_k15 => k_is)
    (case pl_a16 => k_is)
    (case pl_l16 => k_is)
    (case pl_c16 => k_is)
    (case pl_k16 => k_is)
    (case pl_a17 => k_is)
    (case pl_l17 => k_is)
    (case pl_c17 => k_is)
    (case pl_k17 => k_is)
    (case pl_a18 => k_is)
    (case pl_l18 => k_is)
    (case pl_c18 => k_is)
    (case pl_k18 => k_is)
    (case pl_a19 => k_is)
    (case pl_l19 => k_is)
    (case pl_c19 => k_is)
    (case pl_k19 => k_is)
    (case pl_a20 => k_is)
    (case pl_l20 => k_is)
    (case pl_c20 => k_is)
    (case pl_k20 => k_is)
    (case pl_a21 => k_is)
    (case pl_l21 => k_is)
    (case pl_c21 => k_is)
    (case pl_k21 => k_is)
    (case pl_a22 => k_is)
    (case pl_l22 => k_is)
    (case pl_c22 => k_is)
    (case pl_k22 => k_is)
    (case pl_a23 => k_is)
    (case pl_l23 => k_is)
    (case pl_c23 => k_is)
    (case pl_k23 => k_is)
    (case pl_a24 => k_is)
    (case pl_l24 => k_is)
    (case pl_c24 => k_is)
    (case pl_k24 => k_is)
    (case pl_a25 => k_is)
    (case pl_l25 => k_is)
    (case pl_c25 => k_is)
    (case pl_k25 => k_is)
    (case pl_a26 => k_is)
    (case pl_l26 => k_is)
    (case pl_c26 => k_is)
    (case pl_k26 => k_is)
    (case pl_a27 => k_is)
    (case pl_l27 => k_is)
    (case pl_c27 => k_is)
    (case pl_k27 => k_is)
    (case pl_a28 => k_is)
    (case pl_l28 => k_is)
    (case pl_c28 => k_is)
    (case pl_k28 => k_is)
    (case pl_a29 => k_is)
    (case pl_l29 => k_is)
    (case pl_c29 => k_is)
    (case pl_k29 => k_is)
    (case pl_a30 => k_is)
    (case pl_l30 => k_is)
    (case pl_c30 => k_is)
    (case pl_k30 => k_is)
    (case pl_a31 => k_is)
    (case pl_l31 => k_is)
    (case pl_c31 => k_is)
    (case pl_k31 => k_is)
    (case pl_a32 => k_is)
    (case pl_l32 => k_is)
    (case pl_c32 => k_is)
    (case pl_k32 => k_is)
    (case pl_a33 => k_is)
    (case pl_l33 => k_is)
    (case pl_c33 => k_is)
    (case pl_k33 => k_is)
    (case pl_a34 => k_is)
    (case pl_l34 => k_is)
    (case pl_c34 => k_is)
    (case pl_k34 => k_is)
    (case pl_a35 => k_is)
    (case pl_l35 => k_is)
    (case pl_c35 => k_is)
    (case pl_k35 => k_is)
    (case pl_a36 => k_is)
    (case pl_l36 => k_is)
    (case pl_c36 => k_is)
    (case pl_k36 => k_is)
    (case pl_z0 => k_is)
    (case pl_z1 => k_is)
    (case pl_z2 => k_is)
    (case pl_z3 => k_is)
    (case pl_z4 => k_is)
    (case pl_z5 => k_is)
    (case pl_z6 => k_is)
    (case pl_z7 => k_is)
    (case pl_z8 => k_is)
    (case pl_z9 => k_is)
    (case pl_z10 => k_is)
    (case pl_z11 => k_is)
    (case pl_z12 => k_is)
    (case pl_g0 => k_is)
    (case pl_g1 => k_is)
    (case pl_g2 => k_is)
    (case pl_g3 => k_is)
    (case pl_g4 => k_is)
    (case pl_xa0 => k_is)
    (case pl_xe0 => k_exc)
    (case pl_xk0 => k_is)
    (case pl_xs0 => k_is)
    (case pl_xt0 => k_is)
    (case pl_xa1 => k_is)
    (case pl_xe1 => k_exc)
    (case pl_xk1 => k_is)
    (case pl_xs1 => k_is)
    (case pl_xt1 => k_is)
    (case pl_xa2 => k_is)
    (case pl_xe2 => k_exc)
    (case pl_xk2 => k_is)
    (case pl_xs2 => k_is)
    (case pl_xt2 => k_is)
    (case pl_xa3 => k_is)
    (case pl_xe3 => k_exc)
    (case pl_xk3 => k_is)
    (case pl_xs3 => k_is)
    (case pl_xt3 => k_is)
    (case pl_xa4 => k_is)
    (case pl_xe4 => k_exc)
    (case pl_xk4 => k_is)
    (case pl_xs4 => k_is)
    (case pl_xt4 => k_is)
    (case pl_xa5 => k_is)
    (case pl_xe5 => k_exc)
    (case pl_xk5 => k_is)
    (case pl_xs5 => k_is)
    (case pl_xt5 => k_is)
    (case pl_ua0 => k_is)
    (case pl_ua1 => k_is)
    (case pl_ua2 => k_is)
    (case pl_ua3 => k_is)
    (case pl_ua4 => k_is)
    (case pl_ua5 => k_is)
    (case pl_ua6 => k_is)
    (case pl_ua7 => k_is)
    (case pl_ua8 => k_is)
    (case pl_ua9 => k_is)
    (case pl_ua10 => k_is)
    (case pl_ua11 => k_is)
    (case pl_ua12 => k_is)
    (case pl_ua13 => k_is)
    (case pl_ua14 => k_is)
    (case pl_lb => k_is)
    (case pl_ld => k_is)
    (case pl_lt => k_is)
    (case pl_q11 => k_is)
    (case pl_q21 => k_is)
    (case pl_q31 => k_is)
    (case pl_q41 => k_is)
    (case pl_q51 => k_is)
    (case pl_q81 => k_is)
    (case pl_q91 => k_is)
    (case pl_qv1 => kit_is)
    (case pl_k1_1 => kit_is)
    (case pl_k1_2 => kit_is)
    (case pl_k1_3 => kit_is)
    (case pl_k1_4 => kit_is)
    (case pl_k1_5 => kit_is)
    (case pl_k1_6 => kit_is)
    (case pl_k1_7 => kit_is)
    (case pl_k1_8 => kit_is)
    (case pl_k1_9 => kit_is)
    (case pl_k1_10 => kit_is)
    (case pl_k1_11 => kit_is)
    (case pl_k1_12 => kit_is)
    (case pl_k1_13 => kit_is)
    (case pl_k1_14 => kit_is)
    (case pl_q12 => k_is)
    (case pl_q22 => k_is)
    (case pl_q32 => k_is)
    (case pl_q42 => k_is)
    (case pl_q52 => k_is)
    (case pl_q82 => k_is)
    (case pl_q92 => k_is)
    (case pl_qv2 => kit_is)
    (case pl_k2_1 => kit_is)
    (case pl_k2_2 => kit_is)
    (case pl_k2_3 => kit_is)
    (case pl_k2_4 => kit_is)
    (case pl_k2_5 => kit_is)
    (case pl_k2_6 => kit_is)
    (case pl_k2_7 => kit_is)
    (case pl_k2_8 => kit_is)
    (case pl_k2_9 => kit_is)
    (case pl_k2_10 => kit_is)
    (case pl_k2_11 => kit_is)
    (case pl_k2_12 => kit_is)
    (case pl_k2_13 => kit_is)
    (case pl_k2_14 => kit_is)
    (case pl_q14 => k_is)
    (case pl_q24 => k_is)
    (case pl_q34 => k_is)
    (case pl_q44 => k_is)
    (case pl_q54 => k_is)
    (case pl_q84 => k_is)
    (case pl_q94 => k_is)
    (case pl_qv4 => kit_is)
    (case pl_k4_1 => kit_is)
    (case pl_k4_2 => kit_is)
    (case pl_k4_3 => kit_is)
    (case pl_k4_4 => kit_is)
    (case pl_k4_5 => kit_is)
    (case pl_k4_6 => kit_is)
    (case pl_k4_7 => kit_is)
    (case pl_k4_8 => kit_is)
    (case pl_k4_9 => kit_is)
    (case pl_k4_10 => kit_is)
    (case pl_k4_11 => kit_is)
    (case pl_k4_12 => kit_is)
    (case pl_k4_13 => kit_is)
    (case pl_k4_14 => kit_is)
    (case pl_q15 => k_is)
    (case pl_q25 => k_is)
    (case pl_q35 => k_is)
    (case pl_q45 => k_is)
    (case pl_q55 => k_is)
    (case pl_q85 => k_is)
    (case pl_q95 => k_is)
    (case pl_qv5 => kit_is)
    (case pl_k5_1 => kit_is)
    (case pl_k5_2 => kit_is)
    (case pl_k5_3 => kit_is)
    (case pl_k5_4 => kit_is)
    (case pl_k5_5 => kit_is)
    (case pl_k5_6 => kit_is)
    (case pl_k5_7 => kit_is)
    (case pl_k5_8 => kit_is)
    (case pl_k5_9 => kit_is)
    (case pl_k5_10 => kit_is)
    (case pl_k5_11 => kit_is)
    (case pl_k5_12 => kit_is)
    (case pl_k5_13 => kit_is)
    (case pl_k5_14 => kit_is)
    (case pl_q17 => k_is)
    (case pl_q27 => k_is)
    (case pl_q37 => k_is)
    (case pl_q47 => k_is)
    (case pl_q57 => k_is)
    (case pl_q87 => k_is)
    (case pl_q97 => k_is)
    (case pl_qv7 => kit_is)
    (case pl_k7_1 => kit_is)
    (case pl_k7_2 => kit_is)
    (case pl_k7_3 => kit_is)
    (case pl_k7_4 => kit_is)
    (case pl_k7_5 => kit_is)
    (case pl_k7_6 => kit_is)
    (case pl_k7_7 => kit_is)
    (case pl_k7_8 => kit_is)
    (case pl_k7_9 => kit_is)
    (case pl_k7_10 => kit_is)
    (case pl_k7_11 => kit_is)
    (case pl_k7_12 => kit_is)
    (case pl_k7_13 => kit_is)
    (case pl_k7_14 => kit_is)
    (case pl_q19 => k_is)
    (case pl_q29 => k_is)
    (case pl_q39 => k_is)
    (case pl_q49 => k_is)
    (case pl_q59 => k_is)
    (case pl_q89 => k_is)
    (case pl_q99 => k_is)
    (case pl_qv9 => kit_is)
    (case pl_k9_1 => kit_is)
    (case pl_k9_2 => kit_is)
    (case pl_k9_3 => kit_is)
    (case pl_k9_4 => kit_is)
    (case pl_k9_5 => kit_is)
    (case pl_k9_6 => kit_is)
    (case pl_k9_7 => kit_is)
    (case pl_k9_8 => kit_is)
    (case pl_k9_9 => kit_is)
    (case pl_k9_10 => kit_is)
    (case pl_k9_11 => kit_is)
    (case pl_k9_12 => kit_is)
    (case pl_k9_13 => kit_is)
    (case pl_k9_14 => kit_is)
    (case pl_q6 => k_is)
    (case pl_q7 => k_is)
