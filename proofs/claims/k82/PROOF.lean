import PyProof.Rows.All
import Wide.All
import OpenK.AllK
import Wide.FinOn
import HandS.ForMost
import HandS.ForExc
import HandS.Wide
import HandS.WideBits
import HandS.WideMore
import HandS.IsInst
import HandS.CallSlots
import HandS.Rev
import HandS.TupAny
import HandS.Flow
import HandS.Defaults
import HandS.EndBits
import HandS.HotCalls
import HandS.ExcIs
import HandS.SuiteRaise
import PyProof.LongRange
import HandS.Deep
import HandS.Flt
import HandS.TryOnly
import HandS.Comp
import HandS.Conv
import HandS.SortInts
import HandS.TupLe
import KE.SortData
import KE.DataCmp
import PySem.Challenge.RW_leftnumbers_k82_whole_which_squares
set_option Elab.async false
set_option linter.all false
set_option maxRecDepth 100000
set_option autoImplicit false
namespace PL
open PySem PySem.Spec L2
open PyProof.Rows hiding St
/-- plain values -/
inductive PV where
  | non | bl (b : Bool) | int (i : Int) | str (s : Str)
  | tup (l : List PV) | lst (l : List PV) | frz (l : List PV) | dct
/-- what an evaluation comes to -/
inductive R (α : Type) where
  | ok (a : α) | exc (c : Str) | stuck
def R.bind {α β : Type} (x : R α) (k : α → R β) : R β := match x with
  | .ok a => k a | .exc c => .exc c | .stuck => .stuck
theorem R.bind_ok {α β : Type} (a : α) (k : α → R β) : (R.ok a).bind k = k a := rfl
/-- a slot: nothing yet; a value that may be shared; a list that this def made and nobody else holds -/
inductive Slot where
  | un | val (p : PV) | own (l : List PV) | ex (a : Addr)
abbrev Rho := List Slot
/-- a written tuple -/
def KT (K : PySem.W.Frag) (a : Addr) (xs : List V) : Prop :=
  ∃ (o : Obj) (its : Array Value) (n : Nat), K.lookup a = some o ∧ o.cls = .type "tuple" ∧ o.data = .seq its n ∧ its.size ≤ sizeLine ∧ Vals xs its.toList
mutual
inductive Rep (K : PySem.W.Frag) (H : Hp) (O : Addr → Prop) : V → PV → Prop
  | non : Rep K H O .non .non
  | bl (b : Bool) : Rep K H O (.bl b) (.bl b)
  | int (i : Int) : Rep K H O (.int i) (.int i)
  | str (x : Str) : Rep K H O (.str x) (.str x)
  | lst {a : Addr} {xs : List V} {ps : List PV} : H a = some (.lst xs) → ¬ O a → Reps K H O xs ps → Rep K H O (.ref a) (.lst ps)
  | tup {a : Addr} {xs : List V} {ps : List PV} : (H a = some (.tup xs) ∧ ¬ O a ∨ KT K a xs) → Reps K H O xs ps → Rep K H O (.ref a) (.tup ps)
  | frz {a : Addr} {ns : List Int} : ((∃ o, H a = some (.frz o (.lst (ns.map V.int)))) ∧ ¬ O a ∨ ((∀ H', SqL K H' a (ns.map V.int)))) → Rep K H O (.ref a) (.frz (ns.map PV.int))
  | dct {a : Addr} {kvs : List (L2.Key × V)} : H a = some (.dK kvs) → ¬ O a → Rep K H O (.ref a) .dct
inductive Reps (K : PySem.W.Frag) (H : Hp) (O : Addr → Prop) : List V → List PV → Prop
  | nil : Reps K H O [] []
  | cons {v : V} {vs : List V} {p : PV} {ps : List PV} : Rep K H O v p → Reps K H O vs ps → Reps K H O (v :: vs) (p :: ps)
end
section
variable {K : PySem.W.Frag} {H H' : Hp} {O O' : Addr → Prop}
mutual
theorem Rep.mono (hk : ∀ a o, H a = some o → ¬ O a → H' a = some o ∧ ¬ O' a) : ∀ {v : V} {p : PV}, Rep K H O v p → Rep K H' O' v p
  | _, _, .non => .non
  | _, _, .bl b => .bl b
  | _, _, .int i => .int i
  | _, _, .str x => .str x
  | _, _, .lst h n r => .lst (hk _ _ h n).1 (hk _ _ h n).2 (Reps.mono hk r)
  | _, _, .tup (.inl ⟨h, n⟩) r => .tup (.inl ⟨(hk _ _ h n).1, (hk _ _ h n).2⟩) (Reps.mono hk r)
  | _, _, .tup (.inr h) r => .tup (.inr h) (Reps.mono hk r)
  | _, _, .frz (.inl ⟨⟨o, h⟩, n⟩) => .frz (.inl ⟨⟨o, (hk _ _ h n).1⟩, (hk _ _ h n).2⟩)
  | _, _, .frz (.inr h) => .frz (.inr h)
  | _, _, .dct h n => .dct (hk _ _ h n).1 (hk _ _ h n).2
theorem Reps.mono (hk : ∀ a o, H a = some o → ¬ O a → H' a = some o ∧ ¬ O' a) : ∀ {v : List V} {p : List PV}, Reps K H O v p → Reps K H' O' v p
  | _, _, .nil => .nil
  | _, _, .cons h r => .cons (Rep.mono hk h) (Reps.mono hk r)
end
theorem Rep.same {v : V} {p : PV} (s : Same H H') (r : Rep K H O v p) : Rep K H' O v p := r.mono fun a o h n => ⟨s a o h, n⟩
theorem Reps.same {v : List V} {p : List PV} (s : Same H H') (r : Reps K H O v p) : Reps K H' O v p := r.mono fun a o h n => ⟨s a o h, n⟩
theorem Rep.less {v : V} {p : PV} (s : ∀ a, O' a → O a) (r : Rep K H O v p) : Rep K H O' v p := r.mono fun a o h n => ⟨h, fun z => n (s a z)⟩
theorem Reps.less {v : List V} {p : List PV} (s : ∀ a, O' a → O a) (r : Reps K H O v p) : Reps K H O' v p := r.mono fun a o h n => ⟨h, fun z => n (s a z)⟩
theorem Reps.length : ∀ {vs : List V} {ps : List PV}, Reps K H O vs ps → vs.length = ps.length
  | _, _, .nil => rfl
  | _, _, .cons _ r => by rw [List.length_cons, List.length_cons, Reps.length r]
theorem Reps.get : ∀ {vs : List V} {ps : List PV} {i : Nat} {p : PV}, Reps K H O vs ps → ps[i]? = some p → ∃ v, vs[i]? = some v ∧ Rep K H O v p
  | _, _, 0, _, .cons h _, e => ⟨_, rfl, by simp at e; exact e ▸ h⟩
  | _, _, i + 1, p, .cons _ r, e => by
    obtain ⟨v, h1, h2⟩ := Reps.get (i := i) (p := p) r (by simpa using e)
    exact ⟨v, by simpa using h1, h2⟩
theorem Reps.get' : ∀ {vs : List V} {ps : List PV} {i : Nat} {v : V}, Reps K H O vs ps → vs[i]? = some v → ∃ p, ps[i]? = some p ∧ Rep K H O v p
  | _, _, 0, _, .cons h _, e => ⟨_, rfl, by simp at e; exact e ▸ h⟩
  | _, _, i + 1, v, .cons _ r, e => by
    obtain ⟨p, h1, h2⟩ := Reps.get' (i := i) (v := v) r (by simpa using e)
    exact ⟨p, by simpa using h1, h2⟩
theorem Reps.append : ∀ {vs ws : List V} {ps qs : List PV}, Reps K H O vs ps → Reps K H O ws qs → Reps K H O (vs ++ ws) (ps ++ qs)
  | _, _, _, _, .nil, s => s
  | _, _, _, _, .cons h r, s => .cons h (Reps.append r s)
theorem Reps.take : ∀ {vs : List V} {ps : List PV} (n : Nat), Reps K H O vs ps → Reps K H O (vs.take n) (ps.take n)
  | _, _, 0, _ => .nil
  | _, _, _ + 1, .nil => .nil
  | _, _, n + 1, .cons h r => .cons h (Reps.take n r)
theorem Reps.drop : ∀ {vs : List V} {ps : List PV} (n : Nat), Reps K H O vs ps → Reps K H O (vs.drop n) (ps.drop n)
  | _, _, 0, r => r
  | _, _, _ + 1, .nil => .nil
  | _, _, n + 1, .cons _ r => Reps.drop n r
theorem Reps.set {v : V} {p : PV} (h : Rep K H O v p) : ∀ {vs : List V} {ps : List PV} (n : Nat), Reps K H O vs ps → Reps K H O (vs.set n v) (ps.set n p)
  | _, _, _, .nil => .nil
  | _, _, 0, .cons _ r => .cons h r
  | _, _, n + 1, .cons q r => .cons q (Reps.set h n r)
theorem Reps.reverse {vs : List V} {ps : List PV} (h : Reps K H O vs ps) : Reps K H O vs.reverse ps.reverse := by
  induction vs generalizing ps with
  | nil => cases h; exact .nil
  | cons v vs ih => cases h with
    | cons a r => rw [List.reverse_cons, List.reverse_cons]; exact (ih r).append (.cons a .nil)
theorem Reps.ofInts : ∀ (ns : List Int), Reps K H O (ns.map V.int) (ns.map PV.int)
  | [] => .nil
  | n :: ns => .cons (.int n) (Reps.ofInts ns)
theorem Reps.bls : ∀ {ns : List Bool} {vs : List V}, Reps K H O vs (ns.map PV.bl) → vs = ns.map V.bl
  | [], _, .nil => rfl
  | n :: ns, _, .cons h r => by cases h; rw [Reps.bls r]; rfl
end
/-- the addresses that nobody else may hold: those from outside, those of the slots -/
def OO (O0 : Addr → Prop) (σ : St) (ρ : Rho) : Addr → Prop := fun a => O0 a ∨ ∃ (i : Nat) (ps : List PV), ρ[i]? = some (.own ps) ∧ σ[i]? = some (some (.ref a))
structure StR (K : PySem.W.Frag) (H0 : Hp) (O0 : Addr → Prop) (H : Hp) (σ : St) (ρ : Rho) : Prop where
  len : σ.length = ρ.length
  same : Same H0 H
  all0 : ∀ a, O0 a → H a ≠ none
  own : ∀ (i : Nat) (ps : List PV), ρ[i]? = some (.own ps) → ∃ (a : Addr) (vs : List V), σ[i]? = some (some (.ref a)) ∧ H a = some (.lst vs) ∧ H0 a = none ∧ ¬ O0 a ∧ Reps K H (OO O0 σ ρ) vs ps
  dis : ∀ (i j : Nat) (a : Addr) (ps qs : List PV), ρ[i]? = some (.own ps) → ρ[j]? = some (.own qs) → σ[i]? = some (some (.ref a)) → σ[j]? = some (some (.ref a)) → i = j
  val : ∀ (i : Nat) (p : PV), ρ[i]? = some (.val p) → ∃ (v : V), σ[i]? = some (some v) ∧ Rep K H (OO O0 σ ρ) v p
  exs : ∀ (i : Nat) (a : Addr), ρ[i]? = some (.ex a) → σ[i]? = some (some (.ref a))
theorem exs_set {σ : St} {ρ : Rho} (hl : σ.length = ρ.length) (h : ∀ (i : Nat) (a : Addr), ρ[i]? = some (.ex a) → σ[i]? = some (some (.ref a))) {i : Nat} {v : Option V} {s : Slot} (hs : ∀ a, s = .ex a → v = some (.ref a)) : ∀ (j : Nat) (a : Addr), (ρ.set i s)[j]? = some (.ex a) → (σ.set i v)[j]? = some (some (.ref a)) := fun j a e => by
  by_cases q : i = j
  · subst q
    by_cases hi : i < ρ.length
    · rw [List.getElem?_set_self hi] at e
      rw [List.getElem?_set_self (by rw [hl]; exact hi), hs a (Option.some.inj e)]
    · rw [List.getElem?_eq_none (by rw [List.length_set]; omega)] at e; cases e
  · rw [List.getElem?_set_ne q] at e ⊢
    exact h j a e
theorem exs_setR {σ : St} {ρ : Rho} (h : ∀ (i : Nat) (a : Addr), ρ[i]? = some (.ex a) → σ[i]? = some (some (.ref a))) {i : Nat} {s : Slot} (hs : ∀ a, s ≠ .ex a) : ∀ (j : Nat) (a : Addr), (ρ.set i s)[j]? = some (.ex a) → σ[j]? = some (some (.ref a)) := fun j a e => by
  by_cases q : i = j
  · subst q
    by_cases hi : i < ρ.length
    · rw [List.getElem?_set_self hi] at e
      exact absurd (Option.some.inj e) (hs a)
    · rw [List.getElem?_eq_none (by rw [List.length_set]; omega)] at e; cases e
  · rw [List.getElem?_set_ne q] at e
    exact h j a e
section
variable {K : PySem.W.Frag} {H0 H H' : Hp} {O0 : Addr → Prop} {σ : St} {ρ : Rho}
theorem StR.there (S : StR K H0 O0 H σ ρ) {a : Addr} (h : OO O0 σ ρ a) : H a ≠ none := by
  rcases h with h | ⟨i, ps, h1, h2⟩
  · exact S.all0 a h
  · obtain ⟨b, vs, e1, e2, _⟩ := S.own i ps h1
    rw [h2] at e1; cases e1
    rw [e2]; exact fun z => nomatch z
theorem StR.step (S : StR K H0 O0 H σ ρ) (s : Same H H') : StR K H0 O0 H' σ ρ :=
  ⟨S.len, S.same.trans s, fun a h z => S.all0 a h (s.free z), fun i ps h => let ⟨a, vs, e1, e2, e3, e5, e4⟩ := S.own i ps h; ⟨a, vs, e1, s _ _ e2, e3, e5, e4.same s⟩, S.dis, fun i p h => let ⟨v, e1, e2⟩ := S.val i p h; ⟨v, e1, e2.same s⟩, S.exs⟩
theorem OO.set_val {i : Nat} {v : Option V} {s : Slot} (hs : ∀ ps, s ≠ .own ps) {a : Addr} (h : OO O0 (σ.set i v) (ρ.set i s) a) : OO O0 σ ρ a := by
  rcases h with h | ⟨j, ps, h1, h2⟩
  · exact .inl h
  · by_cases e : i = j
    · subst e
      by_cases hl : i < ρ.length
      · rw [List.getElem?_set_self hl] at h1; exact absurd (Option.some.inj h1) (hs ps)
      · rw [List.getElem?_eq_none (by rw [List.length_set]; omega)] at h1; cases h1
    · rw [List.getElem?_set_ne e] at h1 h2
      exact .inr ⟨j, ps, h1, h2⟩
/-- a slot is set to a shared value (or emptied) -/
theorem StR.set (S : StR K H0 O0 H σ ρ) {i : Nat} {v : Option V} {s : Slot} (hs : ∀ ps, s ≠ .own ps) (hv : ∀ p, s = .val p → ∃ w, v = some w ∧ Rep K H (OO O0 σ ρ) w p) (hx : ∀ a, s = .ex a → v = some (.ref a) := by intro _ z; cases z) : StR K H0 O0 H (σ.set i v) (ρ.set i s) := by
  have less : ∀ a, OO O0 (σ.set i v) (ρ.set i s) a → OO O0 σ ρ a := fun a h => OO.set_val hs h
  refine ⟨by rw [List.length_set, List.length_set, S.len], S.same, S.all0, fun j ps h => ?_, fun j k a ps qs h1 h2 h3 h4 => ?_, fun j p h => ?_, exs_set S.len S.exs hx⟩
  · by_cases e : i = j
    · subst e
      by_cases hl : i < ρ.length
      · rw [List.getElem?_set_self hl] at h; exact absurd (Option.some.inj h) (hs ps)
      · rw [List.getElem?_eq_none (by rw [List.length_set]; omega)] at h; cases h
    · rw [List.getElem?_set_ne e] at h
      obtain ⟨a, vs, e1, e2, e3, e5, e4⟩ := S.own j ps h
      exact ⟨a, vs, by rw [List.getElem?_set_ne e]; exact e1, e2, e3, e5, e4.less less⟩
  · have go : ∀ {j : Nat} {ps : List PV}, (ρ.set i s)[j]? = some (.own ps) → i ≠ j := fun {j ps} h e => by
      subst e
      by_cases hl : i < ρ.length
      · rw [List.getElem?_set_self hl] at h; exact absurd (Option.some.inj h) (hs ps)
      · rw [List.getElem?_eq_none (by rw [List.length_set]; omega)] at h; cases h
    have e1 := go h1
    have e2 := go h2
    rw [List.getElem?_set_ne e1] at h1 h3
    rw [List.getElem?_set_ne e2] at h2 h4
    exact S.dis j k a ps qs h1 h2 h3 h4
  · by_cases e : i = j
    · subst e
      by_cases hl : i < ρ.length
      · rw [List.getElem?_set_self hl] at h
        obtain ⟨w, e1, e2⟩ := hv p (Option.some.inj h)
        exact ⟨w, by rw [List.getElem?_set_self (by rw [S.len]; exact hl), e1], e2.less less⟩
      · rw [List.getElem?_eq_none (by rw [List.length_set]; omega)] at h; cases h
    · rw [List.getElem?_set_ne e] at h
      obtain ⟨w, e1, e2⟩ := S.val j p h
      exact ⟨w, by rw [List.getElem?_set_ne e]; exact e1, e2.less less⟩
/-- a slot is set to a list that is new -/
theorem StR.setOwn (S : StR K H0 O0 H σ ρ) (s : Same H H') {i : Nat} {a : Addr} {vs : List V} {ps : List PV} (hn : H a = none) (ha : H' a = some (.lst vs)) (hr : Reps K H' (fun b => OO O0 σ ρ b ∨ b = a) vs ps) :
    StR K H0 O0 H' (σ.set i (some (.ref a))) (ρ.set i (.own ps)) := by
  have less : ∀ b, OO O0 (σ.set i (some (.ref a))) (ρ.set i (.own ps)) b → OO O0 σ ρ b ∨ b = a := fun b h => by
    rcases h with h | ⟨j, qs, h1, h2⟩
    · exact .inl (.inl h)
    · by_cases e : i = j
      · subst e
        by_cases hl : i < σ.length
        · rw [List.getElem?_set_self hl] at h2; cases h2; exact .inr rfl
        · rw [List.getElem?_eq_none (by rw [List.length_set]; omega)] at h2; cases h2
      · rw [List.getElem?_set_ne e] at h1 h2
        exact .inl (.inr ⟨j, qs, h1, h2⟩)
  have h0 : H0 a = none := S.same.free hn
  have nota : ∀ {b : Addr} {o : HO}, H b = some o → b ≠ a := fun hb z => by rw [z, hn] at hb; cases hb
  have keep : ∀ {v : V} {p : PV}, Rep K H (OO O0 σ ρ) v p → Rep K H' (OO O0 (σ.set i (some (.ref a))) (ρ.set i (.own ps))) v p := fun r => r.mono fun b o hb nb => ⟨s b o hb, fun z => (less b z).elim nb (nota hb)⟩
  have keeps : ∀ {v : List V} {p : List PV}, Reps K H (OO O0 σ ρ) v p → Reps K H' (OO O0 (σ.set i (some (.ref a))) (ρ.set i (.own ps))) v p := fun r => r.mono fun b o hb nb => ⟨s b o hb, fun z => (less b z).elim nb (nota hb)⟩
  refine ⟨by rw [List.length_set, List.length_set, S.len], S.same.trans s, fun a h z => S.all0 a h (s.free z), fun j qs h => ?_, fun j k b qs rs h1 h2 h3 h4 => ?_, fun j p h => ?_, exs_set S.len S.exs fun _ z => nomatch z⟩
  · by_cases e : i = j
    · subst e
      by_cases hl : i < ρ.length
      · rw [List.getElem?_set_self hl] at h; cases h
        exact ⟨a, vs, by rw [List.getElem?_set_self (by rw [S.len]; exact hl)], ha, h0, fun z => S.all0 a z hn, hr.less less⟩
      · rw [List.getElem?_eq_none (by rw [List.length_set]; omega)] at h; cases h
    · rw [List.getElem?_set_ne e] at h
      obtain ⟨b, ws, e1, e2, e3, e5, e4⟩ := S.own j qs h
      exact ⟨b, ws, by rw [List.getElem?_set_ne e]; exact e1, s _ _ e2, e3, e5, keeps e4⟩
  · have other : ∀ {j : Nat} {qs : List PV} {b : Addr}, i ≠ j → (ρ.set i (.own ps))[j]? = some (.own qs) → (σ.set i (some (.ref a)))[j]? = some (some (.ref b)) → b ≠ a := fun {j qs b} e h1 h3 z => by
      rw [List.getElem?_set_ne e] at h1 h3
      obtain ⟨c, ws, e1, e2, _⟩ := S.own j qs h1
      rw [h3] at e1; cases e1
      exact nota e2 z
    have self : ∀ {j : Nat} {b : Addr}, i = j → (σ.set i (some (.ref a)))[j]? = some (some (.ref b)) → b = a := fun {j b} e h3 => by
      subst e
      by_cases hl : i < σ.length
      · rw [List.getElem?_set_self hl] at h3; cases h3; rfl
      · rw [List.getElem?_eq_none (by rw [List.length_set]; omega)] at h3; cases h3
    by_cases e1 : i = j
    · by_cases e2 : i = k
      · exact e1.symm.trans e2
      · exact absurd (self e1 h3) (other e2 h2 h4)
    · by_cases e2 : i = k
      · exact absurd (self e2 h4) (other e1 h1 h3)
      · rw [List.getElem?_set_ne e1] at h1 h3
        rw [List.getElem?_set_ne e2] at h2 h4
        exact S.dis j k b qs rs h1 h2 h3 h4
  · by_cases e : i = j
    · subst e
      by_cases hl : i < ρ.length
      · rw [List.getElem?_set_self hl] at h; cases h
      · rw [List.getElem?_eq_none (by rw [List.length_set]; omega)] at h; cases h
    · rw [List.getElem?_set_ne e] at h
      obtain ⟨w, e1, e2⟩ := S.val j p h
      exact ⟨w, by rw [List.getElem?_set_ne e]; exact e1, keep e2⟩
/-- an owned list is changed -/
theorem StR.write (S : StR K H0 O0 H σ ρ) {i : Nat} {a : Addr} {ps qs : List PV} {ws : List V} (h1 : ρ[i]? = some (.own ps)) (h2 : σ[i]? = some (some (.ref a))) (hr : Reps K H (OO O0 σ ρ) ws qs) :
    StR K H0 O0 (upd H a (.lst ws)) σ (ρ.set i (.own qs)) := by
  have hi : i < ρ.length := (List.getElem?_eq_some_iff.mp h1).1
  have oeq : ∀ b, OO O0 σ (ρ.set i (.own qs)) b ↔ OO O0 σ ρ b := fun b => by
    constructor
    · rintro (h | ⟨j, rs, e1, e2⟩)
      · exact .inl h
      · by_cases e : i = j
        · subst e; exact .inr ⟨i, ps, h1, e2⟩
        · rw [List.getElem?_set_ne e] at e1; exact .inr ⟨j, rs, e1, e2⟩
    · rintro (h | ⟨j, rs, e1, e2⟩)
      · exact .inl h
      · by_cases e : i = j
        · subst e; exact .inr ⟨i, qs, List.getElem?_set_self hi, e2⟩
        · exact .inr ⟨j, rs, by rw [List.getElem?_set_ne e]; exact e1, e2⟩
  have hO : OO O0 σ ρ a := .inr ⟨i, ps, h1, h2⟩
  have hk : ∀ b o, H b = some o → ¬ OO O0 σ ρ b → upd H a (.lst ws) b = some o ∧ ¬ OO O0 σ (ρ.set i (.own qs)) b := fun b o hb nb =>
    ⟨by rw [upd_ne (fun z => nb (by rw [z]; exact hO))]; exact hb, fun z => nb ((oeq b).mp z)⟩
  obtain ⟨a', vs, e1, e2, e3, e5, _⟩ := S.own i ps h1
  rw [h2] at e1; cases e1
  refine ⟨by rw [List.length_set, S.len], fun b o hb => ?_, fun b hb => ?_, fun j rs h => ?_, fun j k b rs ts g1 g2 g3 g4 => ?_, fun j p h => ?_, exs_setR S.exs fun _ z => nomatch z⟩
  · rw [upd_ne (fun z => by rw [z, e3] at hb; cases hb)]; exact S.same b o hb
  · by_cases e : b = a
    · rw [e, upd_same]; exact fun z => nomatch z
    · rw [upd_ne e]; exact S.all0 b hb
  · by_cases e : i = j
    · subst e
      rw [List.getElem?_set_self hi] at h; cases h
      exact ⟨a, ws, h2, upd_same, e3, e5, hr.mono hk⟩
    · rw [List.getElem?_set_ne e] at h
      obtain ⟨b, us, f1, f2, f3, f5, f4⟩ := S.own j rs h
      exact ⟨b, us, f1, by rw [upd_ne (fun z => e (S.dis i j a ps rs h1 h h2 (by rw [← z]; exact f1)))]; exact f2, f3, f5, f4.mono hk⟩
  · have go : ∀ {j : Nat} {rs : List PV}, (ρ.set i (.own qs))[j]? = some (.own rs) → ∃ rs', ρ[j]? = some (.own rs') := fun {j rs} h => by
      by_cases e : i = j
      · subst e; exact ⟨_, h1⟩
      · rw [List.getElem?_set_ne e] at h; exact ⟨_, h⟩
    obtain ⟨_, f1⟩ := go g1
    obtain ⟨_, f2⟩ := go g2
    exact S.dis j k b _ _ f1 f2 g3 g4
  · by_cases e : i = j
    · subst e
      rw [List.getElem?_set_self hi] at h; cases h
    · rw [List.getElem?_set_ne e] at h
      obtain ⟨w, f1, f2⟩ := S.val j p h
      exact ⟨w, f1, f2.mono hk⟩
/-- an owned list is let go: it is shared from now on -/
theorem StR.freeze (S : StR K H0 O0 H σ ρ) {i : Nat} {ps : List PV} (h1 : ρ[i]? = some (.own ps)) : StR K H0 O0 H σ (ρ.set i (.val (.lst ps))) := by
  have hi : i < ρ.length := (List.getElem?_eq_some_iff.mp h1).1
  obtain ⟨a, vs, e1, e2, e3, e5, e4⟩ := S.own i ps h1
  have hs : σ.set i (some (.ref a)) = σ := by
    refine List.ext_getElem? fun j => ?_
    by_cases e : i = j
    · subst e; rw [List.getElem?_set_self (by rw [S.len]; exact hi), e1]
    · rw [List.getElem?_set_ne e]
  have less : ∀ b, OO O0 σ (ρ.set i (.val (.lst ps))) b → OO O0 σ ρ b := fun b h => by
    rw [← hs] at h
    exact OO.set_val (fun _ z => Slot.noConfusion z) h
  have na : ¬ OO O0 σ (ρ.set i (.val (.lst ps))) a := by
    rintro (h | ⟨j, rs, f1, f2⟩)
    · exact e5 h
    · by_cases e : i = j
      · subst e
        rw [List.getElem?_set_self hi] at f1; cases f1
      · rw [List.getElem?_set_ne e] at f1
        exact e (S.dis i j a ps rs h1 f1 e1 f2)
  refine ⟨by rw [List.length_set, S.len], S.same, S.all0, fun j rs h => ?_, fun j k b rs ts g1 g2 g3 g4 => ?_, fun j p h => ?_, exs_setR S.exs fun _ z => nomatch z⟩
  · by_cases e : i = j
    · subst e
      rw [List.getElem?_set_self hi] at h; cases h
    · rw [List.getElem?_set_ne e] at h
      obtain ⟨b, us, f1, f2, f3, f5, f4⟩ := S.own j rs h
      exact ⟨b, us, f1, f2, f3, f5, f4.less less⟩
  · have go : ∀ {j : Nat} {rs : List PV}, (ρ.set i (.val (.lst ps)))[j]? = some (.own rs) → ρ[j]? = some (.own rs) := fun {j rs} h => by
      by_cases e : i = j
      · subst e; rw [List.getElem?_set_self hi] at h; cases h
      · rw [List.getElem?_set_ne e] at h; exact h
    exact S.dis j k b _ _ (go g1) (go g2) g3 g4
  · by_cases e : i = j
    · subst e
      rw [List.getElem?_set_self hi] at h; cases h
      exact ⟨.ref a, e1, .lst e2 na (e4.less less)⟩
    · rw [List.getElem?_set_ne e] at h
      obtain ⟨w, f1, f2⟩ := S.val j p h
      exact ⟨w, f1, f2.less less⟩
end
end PL
set_option Elab.async false
set_option linter.all false
set_option maxRecDepth 100000
set_option autoImplicit false
namespace PL
open PySem PySem.Spec L2
open PyProof.Rows hiding St
/-- how a result stands: s: apart from the owned lists; t: it may be an owned list itself; f: a list that is new; w: apart from the outer addresses alone -/
inductive Md where
  | s | t | f | w
def RepM (K : PySem.W.Frag) (O0 : Addr → Prop) (σ : St) (ρ : Rho) : Md → Hp → Hp → V → PV → Prop
  | .s, _, H', v, p => Rep K H' (OO O0 σ ρ) v p
  | .t, _, H', v, p => Rep K H' (OO O0 σ ρ) v p ∨ ∃ a vs ps, v = .ref a ∧ p = .lst ps ∧ H' a = some (.lst vs) ∧ Reps K H' (OO O0 σ ρ) vs ps
  | .f, H, H', v, p => ∃ a vs ps, v = .ref a ∧ p = .lst ps ∧ H a = none ∧ H' a = some (.lst vs) ∧ Reps K H' (fun b => OO O0 σ ρ b ∨ b = a) vs ps
  | .w, _, H', v, p => Rep K H' O0 v p
section
variable {K : PySem.W.Frag} {H0 H H1 H2 : Hp} {O0 : Addr → Prop} {σ : St} {ρ : Rho} {v : V} {p : PV} {m : Md}
theorem RepM.step (r : RepM K O0 σ ρ m H H1 v p) (s : Same H1 H2) : RepM K O0 σ ρ m H H2 v p := by
  cases m with
  | s => exact Rep.same s r
  | t =>
    rcases r with r | ⟨a, vs, ps, e1, e2, e3, e4⟩
    · exact .inl (r.same s)
    · exact .inr ⟨a, vs, ps, e1, e2, s _ _ e3, e4.same s⟩
  | f => obtain ⟨a, vs, ps, e1, e2, e3, e4, e5⟩ := r; exact ⟨a, vs, ps, e1, e2, e3, s _ _ e4, e5.same s⟩
  | w => exact Rep.same s r
theorem RepM.back (s : Same H H1) (r : RepM K O0 σ ρ m H1 H2 v p) : RepM K O0 σ ρ m H H2 v p := by
  cases m with
  | s => exact r
  | t => exact r
  | f => obtain ⟨a, vs, ps, e1, e2, e3, e4, e5⟩ := r; exact ⟨a, vs, ps, e1, e2, s.free e3, e4, e5⟩
  | w => exact r
theorem RepM.f_s (S : StR K H0 O0 H σ ρ) (r : RepM K O0 σ ρ .f H H1 v p) : RepM K O0 σ ρ .s H H1 v p := by
  obtain ⟨a, vs, ps, rfl, rfl, e3, e4, e5⟩ := r
  exact .lst e4 (fun z => S.there z e3) (e5.less fun _ z => .inl z)
theorem RepM.s_w (r : RepM K O0 σ ρ .s H H1 v p) : RepM K O0 σ ρ .w H H1 v p := Rep.less (fun _ z => .inl z) r
theorem RepM.s_t (r : RepM K O0 σ ρ .s H H1 v p) : RepM K O0 σ ρ .t H H1 v p := .inl r
end
/-- what an expression's end must bring -/
def Got (K : PySem.W.Frag) (mg : Str → Option Value) (W : WX) (O0 : Addr → Prop) (σ : St) (ρ : Rho) (m : Md) (H : Hp) (Q : VK) : R PV → Prop
  | .ok p => ∀ v H', Same H H' → RepM K O0 σ ρ m H H' v p → Q v H'
  | .exc c => ∀ C H', Same H H' → mg c = some (.ref C) → W (.ref C) none σ H'
  | .stuck => False
def GotT (mg : Str → Option Value) (W : WX) (σ : St) (H : Hp) (Q : Bool → Hp → Prop) : R Bool → Prop
  | .ok b => ∀ H', Same H H' → Q b H'
  | .exc c => ∀ C H', Same H H' → mg c = some (.ref C) → W (.ref C) none σ H'
  | .stuck => False
def GotA (K : PySem.W.Frag) (mg : Str → Option Value) (W : WX) (O0 : Addr → Prop) (σ : St) (ρ : Rho) (m : Md) (H : Hp) (Q : List V → Hp → Prop) : R (List PV) → Prop
  | .ok ps => ∀ vs H', Same H H' → Paired (RepM K O0 σ ρ m H H') vs ps → Q vs H'
  | .exc c => ∀ C H', Same H H' → mg c = some (.ref C) → W (.ref C) none σ H'
  | .stuck => False
def tE (K : PySem.W.Frag) (mg : Str → Option Value) (W : WX) (m : Md) (f : Rho → R PV) : TE := fun σ H Q =>
  ∃ H0 O0 ρ, StR K H0 O0 H σ ρ ∧ Got K mg W O0 σ ρ m H Q (f ρ)
def tT (K : PySem.W.Frag) (mg : Str → Option Value) (W : WX) (f : Rho → R Bool) : TT := fun σ H Q =>
  ∃ H0 O0 ρ, StR K H0 O0 H σ ρ ∧ GotT mg W σ H Q (f ρ)
def tA (K : PySem.W.Frag) (mg : Str → Option Value) (W : WX) (m : Md) (f : Rho → R (List PV)) : TA := fun σ H Q =>
  ∃ H0 O0 ρ, StR K H0 O0 H σ ρ ∧ GotA K mg W O0 σ ρ m H Q (f ρ)
abbrev EJ (X : Cx) (W : WX) (m : Md) (e : Expr) (f : Rho → R PV) : Prop := PE X e (tE X.K X.mg W m f)
abbrev TJ (X : Cx) (W : WX) (e : Expr) (f : Rho → R Bool) : Prop := PT X e (tT X.K X.mg W f)
abbrev AJ (X : Cx) (W : WX) (m : Md) (es : List Expr) (f : Rho → R (List PV)) : Prop := PA X es (tA X.K X.mg W m f)
section
variable {X : Cx} {e a b : Expr} {pos : Pos}
theorem pe_imp {t t' : TE} (h : PE X e t) (q : ∀ σ H Q, t' σ H Q → t σ H Q) : PE X e t' := ⟨fun pins s σ H Q I hw => h.run pins s σ H Q I (q σ H Q hw)⟩
theorem pt_imp {t t' : TT} (h : PT X e t) (q : ∀ σ H Q, t' σ H Q → t σ H Q) : PT X e t' := ⟨fun pins s σ H Q I hw => h.run pins s σ H Q I (q σ H Q hw)⟩
theorem pw_imp {t t' : TT} (h : PW X e t) (q : ∀ σ H Q, t' σ H Q → t σ H Q) : PW X e t' := ⟨fun wh pins s σ H Q I hw => h.run wh pins s σ H Q I (q σ H Q hw)⟩
theorem pa_imp {es : List Expr} {t t' : TA} (h : PA X es t) (q : ∀ σ H Q, t' σ H Q → t σ H Q) : PA X es t' := ⟨fun pos pins s σ H Q I hw => h.run pos pins s σ H Q I (q σ H Q hw)⟩
end
section
variable {K : PySem.W.Frag} {mg : Str → Option Value} {W : WX} {H0 H H1 H2 : Hp} {O0 : Addr → Prop} {σ : St} {ρ : Rho} {m m1 m2 : Md}
/-- from a later heap -/
theorem Got.later {x : R PV} {Q : VK} (s : Same H H1) (h : Got K mg W O0 σ ρ m H Q x) : Got K mg W O0 σ ρ m H1 Q x := by
  cases x with
  | ok p => exact fun v H' s' r => h v H' (s.trans s') (r.back s)
  | exc c => exact fun C H' s' e => h C H' (s.trans s') e
  | stuck => exact h
theorem GotT.later {x : R Bool} {Q : Bool → Hp → Prop} (s : Same H H1) (h : GotT mg W σ H Q x) : GotT mg W σ H1 Q x := by
  cases x with
  | ok p => exact fun H' s' => h H' (s.trans s')
  | exc c => exact fun C H' s' e => h C H' (s.trans s') e
  | stuck => exact h
end
def eC (p : PV) : Rho → R PV := fun _ => .ok p
def eV (i : Nat) : Rho → R PV := fun ρ => match ρ[i]? with
  | some (.val p) => .ok p
  | _ => .stuck
def eVo (i : Nat) : Rho → R PV := fun ρ => match ρ[i]? with
  | some (.val p) => .ok p
  | some (.own ps) => .ok (.lst ps)
  | _ => .stuck
section
variable {X : Cx} {W : WX} {e a b c : Expr} {pos : Pos} {m m1 m2 m3 : Md} {f g h : Rho → R PV}
theorem e_const {v : V} {p : PV} (hp : PE X e (tC v)) (hr : ∀ K H O, Rep K H O v p) : EJ X W .s e (eC p) := by
  refine pe_imp hp fun σ H Q ⟨H0, O0, ρ, S, G⟩ => ?_
  exact G v H (Same.refl H) (hr _ _ _)
theorem e_int {i : Int} {j : Nat} : EJ X W .s (.Constant (.int i) j pos) (eC (.int i)) := e_const pe_int fun _ _ _ => .int i
theorem e_bl {k : Bool} {j : Nat} : EJ X W .s (.Constant (.bool k) j pos) (eC (.bl k)) := e_const pe_bl fun _ _ _ => .bl k
theorem e_s_t (h : EJ X W .s e f) : EJ X W .t e f := by
  refine pe_imp h fun σ H Q ⟨H0, O0, ρ, S, G⟩ => ⟨H0, O0, ρ, S, ?_⟩
  revert G
  cases f ρ with
  | ok p => exact fun G v H' s r => G v H' s (RepM.s_t (H := H) r)
  | exc c => exact id
  | stuck => exact id
theorem e_f_s (h : EJ X W .f e f) : EJ X W .s e f := by
  refine pe_imp h fun σ H Q ⟨H0, O0, ρ, S, G⟩ => ⟨H0, O0, ρ, S, ?_⟩
  revert G
  cases f ρ with
  | ok p => exact fun G v H' s r => G v H' s (RepM.f_s S r)
  | exc c => exact id
  | stuck => exact id
theorem e_f_t (h : EJ X W .f e f) : EJ X W .t e f := e_s_t (e_f_s h)
theorem eVar_get {K : PySem.W.Frag} {H0 H : Hp} {O0 : Addr → Prop} {σ : St} {ρ : Rho} (S : StR K H0 O0 H σ ρ) {i : Nat} {p : PV} (h : eV i ρ = .ok p) : ∃ v, σ[i]? = some (some v) ∧ Rep K H (OO O0 σ ρ) v p := by
  unfold eV at h
  split at h
  · rename_i q hq
    cases h
    exact S.val i _ hq
  · cases h
theorem e_var {i : Nat} (hp : PE X e (tVar i)) : EJ X W .s e (eV i) := by
  refine pe_imp hp fun σ H Q ⟨H0, O0, ρ, S, G⟩ => ?_
  revert G
  cases hv : eV i ρ with
  | ok p =>
    intro G
    obtain ⟨v, e1, e2⟩ := eVar_get S hv
    exact ⟨v, e1, G v H (Same.refl H) e2⟩
  | exc c => unfold eV at hv; split at hv <;> cases hv
  | stuck => exact False.elim
theorem eVo_get {K : PySem.W.Frag} {H0 H : Hp} {O0 : Addr → Prop} {σ : St} {ρ : Rho} (S : StR K H0 O0 H σ ρ) {i : Nat} {p : PV} (h : eVo i ρ = .ok p) : ∃ v, σ[i]? = some (some v) ∧ RepM K O0 σ ρ .t H H v p ∧ RepM K O0 σ ρ .w H H v p := by
  unfold eVo at h
  split at h
  · rename_i q hq
    cases h
    obtain ⟨v, e1, e2⟩ := S.val i _ hq
    exact ⟨v, e1, .inl e2, RepM.s_w (H := H) e2⟩
  · rename_i ps hq
    cases h
    obtain ⟨a, vs, e1, e2, e3, e5, e4⟩ := S.own i _ hq
    exact ⟨.ref a, e1, .inr ⟨a, vs, _, rfl, rfl, e2, e4⟩, .lst e2 e5 (e4.less fun _ z => .inl z)⟩
  · cases h
theorem eVo_noexc {i : Nat} {ρ : Rho} {c : Str} (h : eVo i ρ = .exc c) : False := by
  unfold eVo at h
  split at h <;> cases h
theorem e_varT {i : Nat} (hp : PE X e (tVar i)) : EJ X W .t e (eVo i) := by
  refine pe_imp hp fun σ H Q ⟨H0, O0, ρ, S, G⟩ => ?_
  revert G
  cases hv : eVo i ρ with
  | ok p =>
    intro G
    obtain ⟨v, e1, e2, _⟩ := eVo_get S hv
    exact ⟨v, e1, G v H (Same.refl H) e2⟩
  | exc c => exact (eVo_noexc hv).elim
  | stuck => exact False.elim
/-- what an operation's end must bring -/
def GotV (K : PySem.W.Frag) (O0 : Addr → Prop) (σ : St) (ρ : Rho) (m : Md) (H H2 : Hp) (Q : VK) : R PV → Prop
  | .ok p => ∀ v H', Same H2 H' → RepM K O0 σ ρ m H H' v p → Q v H'
  | _ => False
def OpS (K : PySem.W.Frag) (r : R2) (m1 m2 m : Md) (g : PV → PV → R PV) : Prop :=
  ∀ {H0 O0 σ ρ H H2 x y p q} {Q : VK}, StR K H0 O0 H σ ρ → Same H H2 → RepM K O0 σ ρ m1 H H2 x p → RepM K O0 σ ρ m2 H H2 y q → GotV K O0 σ ρ m H H2 Q (g p q) → r x y H2 Q
def UnS (K : PySem.W.Frag) (r : V → Hp → VK → Prop) (m1 m : Md) (g : PV → R PV) : Prop :=
  ∀ {H0 O0 σ ρ H H2 x p} {Q : VK}, StR K H0 O0 H σ ρ → Same H H2 → RepM K O0 σ ρ m1 H H2 x p → GotV K O0 σ ρ m H H2 Q (g p) → r x H2 Q
def CallS (K : PySem.W.Frag) (r : List V → Hp → VK → Prop) (m1 m : Md) (g : List PV → R PV) : Prop :=
  ∀ {H0 O0 σ ρ H H2 xs ps} {Q : VK}, StR K H0 O0 H σ ρ → Same H H2 → Paired (RepM K O0 σ ρ m1 H H2) xs ps → GotV K O0 σ ρ m H H2 Q (g ps) → r xs H2 Q
def e2 (g : PV → PV → R PV) (f1 f2 : Rho → R PV) : Rho → R PV := fun ρ => (f1 ρ).bind fun x => (f2 ρ).bind fun y => g x y
def e1 (g : PV → R PV) (f1 : Rho → R PV) : Rho → R PV := fun ρ => (f1 ρ).bind g
theorem Got.v {K : PySem.W.Frag} {mg : Str → Option Value} {O0 : Addr → Prop} {σ : St} {ρ : Rho} {H H2 : Hp} {Q : VK} {x : R PV} (hx : ∀ c, x ≠ .exc c) (s : Same H H2) (G : Got K mg W O0 σ ρ m H Q x) : GotV K O0 σ ρ m H H2 Q x := by
  cases x with
  | ok p => exact fun v H' s' r => G v H' (s.trans s') r
  | exc c => exact absurd rfl (hx c)
  | stuck => exact G
theorem t_op {r : R2} {g : PV → PV → R PV} (hg : ∀ p q c, g p q ≠ .exc c) (ho : OpS X.K r m1 m2 m g) : ∀ σ H Q, tE X.K X.mg W m (e2 g f h) σ H Q → tOp r (tE X.K X.mg W m1 f) (tE X.K X.mg W m2 h) σ H Q := by
  intro σ H Q ⟨H0, O0, ρ, S, G⟩
  refine ⟨H0, O0, ρ, S, ?_⟩
  revert G
  unfold e2
  cases f ρ with
  | stuck => exact False.elim
  | exc c => exact id
  | ok p =>
    intro G x H1 s1 r1
    refine ⟨H0, O0, ρ, S.step s1, ?_⟩
    revert G
    rw [R.bind_ok]
    cases h ρ with
    | stuck => exact False.elim
    | exc c => exact fun G C H' s' => G C H' (s1.trans s')
    | ok q =>
      intro G y H2 s2 r2
      exact ho S (s1.trans s2) (r1.step s2) (r2.back s1) (Got.v (hg p q) (s1.trans s2) G)
theorem e_op {op : Operator} {r : R2} {g : PV → PV → R PV} (hr : OpR X (binaryOp op) r) (hg : ∀ p q c, g p q ≠ .exc c) (ho : OpS X.K r m1 m2 m g) (ha : EJ X W m1 a f) (hb : EJ X W m2 b h) : EJ X W m (.BinOp a op b pos) (e2 g f h) :=
  pe_imp (pe_op hr ha hb) (t_op hg ho)
theorem e_cmp {op : CmpOp} {r : R2} {g : PV → PV → R PV} (hr : OpR X (compareOp op) r) (hg : ∀ p q c, g p q ≠ .exc c) (ho : OpS X.K r m1 m2 m g) (ha : EJ X W m1 a f) (hb : EJ X W m2 b h) (hm : behindInMarks op b = false) : EJ X W m (.Compare a [op] [b] pos) (e2 g f h) :=
  pe_imp (pe_cmpR hr ha hb hm) (t_op hg ho)
theorem e_ix {r : R2} {g : PV → PV → R PV} (hr : IxR X r) (hg : ∀ p q c, g p q ≠ .exc c) (ho : OpS X.K r m1 m2 m g) (ha : EJ X W m1 a f) (hb : EJ X W m2 b h) (hs : PlainIx b) : EJ X W m (.Subscript a b pos) (e2 g f h) :=
  pe_imp (pe_ix hr ha hb hs) (t_op hg ho)
theorem e_un {op : UnaryOp} {r : V → Hp → VK → Prop} {g : PV → R PV} (hr : UnR X (unaryOp op) r) (hg : ∀ p c, g p ≠ .exc c) (ho : UnS X.K r m1 m g) (ha : EJ X W m1 a f) : EJ X W m (.UnaryOp op a pos) (e1 g f) := by
  refine pe_imp (pe_un hr ha) fun σ H Q ⟨H0, O0, ρ, S, G⟩ => ⟨H0, O0, ρ, S, ?_⟩
  revert G
  unfold e1
  cases f ρ with
  | stuck => exact False.elim
  | exc c => exact id
  | ok p => exact fun G x H1 s1 r1 => ho S s1 r1 (Got.v (hg p) s1 G)
def asB : PV → R Bool
  | .bl b => .ok b
  | _ => .stuck
def tB1 (f : Rho → R PV) : Rho → R Bool := fun ρ => (f ρ).bind asB
theorem GotB {K : PySem.W.Frag} {mg : Str → Option Value} {O0 : Addr → Prop} {σ : St} {ρ : Rho} {H : Hp} {Q : Bool → Hp → Prop} {x : R PV} (G : GotT mg W σ H Q (x.bind asB)) : Got K mg W O0 σ ρ .s H (fun v H' => ∃ k, v = .bl k ∧ Q k H') x := by
  revert G
  cases x with
  | stuck => exact False.elim
  | exc c => exact id
  | ok p =>
    cases p with
    | bl b => exact fun G v H' s r => by cases r; exact ⟨b, rfl, G H' s⟩
    | _ => exact False.elim
theorem t_cmp {op : CmpOp} {r : R2} {g : PV → PV → R PV} (hr : OpR X (compareOp op) r) (hg : ∀ p q c, g p q ≠ .exc c) (ho : OpS X.K r m1 m2 .s g) (ha : EJ X W m1 a f) (hb : EJ X W m2 b h) (hm : behindInMarks op b = false) : TJ X W (.Compare a [op] [b] pos) (tB1 (e2 g f h)) := by
  refine pt_imp (pt_cmpR hr ha hb hm) fun σ H Q ⟨H0, O0, ρ, S, G⟩ => ?_
  exact t_op hg ho σ H _ ⟨H0, O0, ρ, S, GotB G⟩
/-- an expression of any other kind, worth a truth value -/
theorem t_val (ha : EJ X W .s e f) (he : ∀ whole, isTrue e X.env whole = (do let v ← whole; standAt e.pos; holding [v] (truthy v)) := by intro _; rfl) : TJ X W e (tB1 f) := by
  refine pt_imp (pt_val ha he) fun σ H Q ⟨H0, O0, ρ, S, G⟩ => ⟨H0, O0, ρ, S, GotB G⟩
variable {fT gT hT : Rho → R Bool}
def tNt (f : Rho → R Bool) : Rho → R Bool := fun ρ => (f ρ).bind fun b => .ok (!b)
def tAn (f g : Rho → R Bool) : Rho → R Bool := fun ρ => (f ρ).bind fun b => if b = true then g ρ else .ok false
def tOr' (f g : Rho → R Bool) : Rho → R Bool := fun ρ => (f ρ).bind fun b => if b = true then .ok true else g ρ
theorem t_not (ha : TJ X W a fT) : TJ X W (.UnaryOp .Not a pos) (tNt fT) := by
  refine pt_imp (pt_not ha) fun σ H Q ⟨H0, O0, ρ, S, G⟩ => ⟨H0, O0, ρ, S, ?_⟩
  revert G
  unfold tNt
  cases fT ρ with
  | stuck => exact False.elim
  | exc c => exact id
  | ok b => exact fun G H' s => G H' s
abbrev WJ (X : Cx) (W : WX) (e : Expr) (f : Rho → R Bool) : Prop := PW X e (tT X.K X.mg W f)
theorem t_w (h : WJ X W e fT) : TJ X W e fT := PW.pt h
variable {rest : List Expr}
theorem w_and1 (ha : TJ X W a fT) : WJ X W (.BoolOp .And [a] pos) fT := pw_and1 ha
theorem w_or1 (ha : TJ X W a fT) : WJ X W (.BoolOp .Or [a] pos) fT := pw_or1 ha
theorem w_and (ha : TJ X W a fT) (hb : WJ X W (.BoolOp .And (b :: rest) pos) gT) : WJ X W (.BoolOp .And (a :: b :: rest) pos) (tAn fT gT) := by
  refine pw_imp (pw_and ha hb) fun σ H Q ⟨H0, O0, ρ, S, G⟩ => ⟨H0, O0, ρ, S, ?_⟩
  revert G
  unfold tAn
  cases fT ρ with
  | stuck => exact False.elim
  | exc c => exact id
  | ok k =>
    intro G H1 s1
    cases k with
    | true => rw [if_pos rfl]; exact ⟨H0, O0, ρ, S.step s1, GotT.later s1 G⟩
    | false => rw [if_neg Bool.false_ne_true]; exact G H1 s1
theorem w_or (ha : TJ X W a fT) (hb : WJ X W (.BoolOp .Or (b :: rest) pos) gT) : WJ X W (.BoolOp .Or (a :: b :: rest) pos) (tOr' fT gT) := by
  refine pw_imp (pw_or ha hb) fun σ H Q ⟨H0, O0, ρ, S, G⟩ => ⟨H0, O0, ρ, S, ?_⟩
  revert G
  unfold tOr'
  cases fT ρ with
  | stuck => exact False.elim
  | exc c => exact id
  | ok k =>
    intro G H1 s1
    cases k with
    | false => rw [if_neg Bool.false_ne_true]; exact ⟨H0, O0, ρ, S.step s1, GotT.later s1 G⟩
    | true => rw [if_pos rfl]; exact G H1 s1
/-- and, or, not as values -/
def eAn (f g : Rho → R PV) : Rho → R PV := fun ρ => (f ρ).bind fun p => (asB p).bind fun b => if b = true then g ρ else .ok (.bl false)
def eOr (f g : Rho → R PV) : Rho → R PV := fun ρ => (f ρ).bind fun p => (asB p).bind fun b => if b = true then .ok (.bl true) else g ρ
def notP : PV → R PV
  | .bl b => .ok (.bl (!b))
  | _ => .stuck
theorem e_one {op : BoolOp} (ha : EJ X W m a f) : EJ X W m (.BoolOp op [a] pos) f := pe_one ha
theorem e_and (ha : EJ X W .s a f) (hb : EJ X W .s (.BoolOp .And (b :: rest) pos) g) : EJ X W .s (.BoolOp .And (a :: b :: rest) pos) (eAn f g) := by
  refine pe_imp (pe_and ha hb) fun σ H Q ⟨H0, O0, ρ, S, G⟩ => ⟨H0, O0, ρ, S, ?_⟩
  revert G
  unfold eAn
  cases f ρ with
  | stuck => exact False.elim
  | exc c => exact id
  | ok p =>
    cases p with
    | bl k =>
      intro G v H1 s1 r1
      cases r1
      refine ⟨k, rfl, ?_⟩
      cases k with
      | true => rw [if_pos rfl]; exact ⟨H0, O0, ρ, S.step s1, Got.later s1 G⟩
      | false => rw [if_neg Bool.false_ne_true]; exact G _ H1 s1 (.bl false)
    | _ => exact False.elim
theorem e_not (ha : EJ X W .s a f) : EJ X W .s (.UnaryOp .Not a pos) (e1 notP f) := by
  refine pe_imp (pe_not ha) fun σ H Q ⟨H0, O0, ρ, S, G⟩ => ⟨H0, O0, ρ, S, ?_⟩
  revert G
  unfold e1
  cases f ρ with
  | stuck => exact False.elim
  | exc c => exact id
  | ok p =>
    cases p with
    | bl k => exact fun G v H1 s1 r1 => by cases r1; exact ⟨k, rfl, G _ H1 s1 (.bl _)⟩
    | _ => exact False.elim
def eIf (t : Rho → R Bool) (f g : Rho → R PV) : Rho → R PV := fun ρ => (t ρ).bind fun b => if b = true then f ρ else g ρ
def aNil : Rho → R (List PV) := fun _ => .ok []
def aCons (f : Rho → R PV) (g : Rho → R (List PV)) : Rho → R (List PV) := fun ρ => (f ρ).bind fun p => (g ρ).bind fun ps => .ok (p :: ps)
variable {es : List Expr} {fA : Rho → R (List PV)}
theorem a_nil : AJ X W m [] aNil := by
  refine pa_imp pa_nil fun σ H Q ⟨H0, O0, ρ, S, G⟩ => ?_
  exact G [] H (Same.refl H) .nil
theorem a_cons (ha : EJ X W m e f) (hr : AJ X W m es fA) (hs : starEach (e :: es) X.env = (false, eval e X.env) :: starEach es X.env := by rfl) : AJ X W m (e :: es) (aCons f fA) := by
  refine pa_imp (pa_cons ha hr hs) fun σ H Q ⟨H0, O0, ρ, S, G⟩ => ⟨H0, O0, ρ, S, ?_⟩
  revert G
  unfold aCons
  cases f ρ with
  | stuck => exact False.elim
  | exc c => exact id
  | ok p =>
    intro G v H1 s1 r1
    refine ⟨H0, O0, ρ, S.step s1, ?_⟩
    revert G
    rw [R.bind_ok]
    cases fA ρ with
    | stuck => exact False.elim
    | exc c => exact fun G C H' s' => G C H' (s1.trans s')
    | ok ps =>
      intro G vs H2 s2 r2
      refine G (v :: vs) H2 (s1.trans s2) (.cons (r1.step s2) ?_)
      exact Paired.mapP r2 fun _ _ z => z.back s1
theorem reps_of {K : PySem.W.Frag} {O0 : Addr → Prop} {σ : St} {ρ : Rho} {H H' : Hp} : ∀ {vs : List V} {ps : List PV}, Paired (RepM K O0 σ ρ .s H H') vs ps → Reps K H' (OO O0 σ ρ) vs ps
  | _, _, .nil => .nil
  | _, _, .cons h r => .cons h (reps_of r)
theorem same_new {H : Hp} {p : Addr} {o : HO} (h : H p = none) : Same H (upd H p o) := fun b x z => by
  rw [upd_ne (ne_of_none z h)]; exact z
def tupP (ps : List PV) : R PV := if ps.length ≤ sizeLine then .ok (.tup ps) else .stuck
def lstP (ps : List PV) : R PV := if ps.length ≤ sizeLine then .ok (.lst ps) else .stuck
def eD (g : List PV → R PV) (f : Rho → R (List PV)) : Rho → R PV := fun ρ => (f ρ).bind g
theorem new_tup {K : PySem.W.Frag} {H0 H H1 : Hp} {O0 : Addr → Prop} {σ : St} {ρ : Rho} (S : StR K H0 O0 H1 σ ρ) {vs : List V} {ps : List PV} (r : Reps K H1 (OO O0 σ ρ) vs ps) {p : Addr} (hp : H1 p = none) : Rep K (upd H1 p (.tup vs)) (OO O0 σ ρ) (.ref p) (.tup ps) :=
  .tup (.inl ⟨upd_same, fun z => S.there z hp⟩) (r.same (same_new hp))
theorem new_lst {K : PySem.W.Frag} {H0 H H1 : Hp} {O0 : Addr → Prop} {σ : St} {ρ : Rho} (s : Same H H1) {vs : List V} {ps : List PV} (r : Reps K H1 (OO O0 σ ρ) vs ps) {p : Addr} (hp : H1 p = none) : RepM K O0 σ ρ .f H (upd H1 p (.lst vs)) (.ref p) (.lst ps) :=
  ⟨p, vs, ps, rfl, rfl, s.free hp, upd_same, r.mono fun b o hb nb => ⟨same_new hp b o hb, fun z => z.elim nb fun z => by rw [z, hp] at hb; cases hb⟩⟩
theorem e_tup {k : Nat} (h : AJ X W .s es fA) : EJ X W .s (.Tuple es k pos) (eD tupP fA) := by
  refine pe_imp (pe_tup h) fun σ H Q ⟨H0, O0, ρ, S, G⟩ => ⟨H0, O0, ρ, S, ?_⟩
  revert G
  unfold eD
  cases fA ρ with
  | stuck => exact False.elim
  | exc c => exact id
  | ok ps =>
    intro G vs H1 s1 r1
    have rr := reps_of r1
    revert G
    rw [R.bind_ok]
    unfold tupP
    split
    · rename_i hz
      exact fun G => ⟨by rw [rr.length]; exact hz, fun p hp => G _ _ (s1.trans (same_new hp)) (new_tup (H := H) (S.step s1) rr hp)⟩
    · exact False.elim
theorem e_lst (h : AJ X W .s es fA) : EJ X W .f (.List es pos) (eD lstP fA) := by
  refine pe_imp (pe_lst h) fun σ H Q ⟨H0, O0, ρ, S, G⟩ => ⟨H0, O0, ρ, S, ?_⟩
  revert G
  unfold eD
  cases fA ρ with
  | stuck => exact False.elim
  | exc c => exact id
  | ok ps =>
    intro G vs H1 s1 r1
    have rr := reps_of r1
    revert G
    rw [R.bind_ok]
    unfold lstP
    split
    · rename_i hz
      exact fun G => ⟨by rw [rr.length]; exact hz, fun p hp => G _ _ (s1.trans (same_new hp)) (new_lst (H0 := H0) s1 rr hp)⟩
    · exact False.elim
theorem e_callB {x : Str} {p : Pos} {id : String} {r : List V → Hp → VK → Prop} {g' : List PV → R PV} (hc : CallR X (.builtin id) r) (hgn : ∀ ps c, g' ps ≠ .exc c) (ho : CallS X.K r m1 m g') (hg : Gl X x) (hm : X.mg x = none) (hv : bootBuiltins x = some (.builtin id)) (ha : AJ X W m1 (e :: es) fA) (hn : x ≠ "__name__" := by decide) (hdb : (x == ("__debug__" : Str)) = false := by decide)
    (he : starEach (e :: es) X.env = (false, eval e X.env) :: starEach es X.env := by rfl) (hpl : (backTo pos (starEach es X.env)).any (·.1) = false := by rfl) : EJ X W m (.Call (.Name x p) (e :: es) [] pos) (eD g' fA) := by
  refine pe_imp (pe_callB hc hg hm hv ha hn hdb he hpl) fun σ H Q ⟨H0, O0, ρ, S, G⟩ => ⟨H0, O0, ρ, S, ?_⟩
  revert G
  unfold eD
  cases fA ρ with
  | stuck => exact False.elim
  | exc c => exact fun G => G
  | ok ps => exact fun G vs H1 s1 r1 => ho S s1 r1 (Got.v (hgn ps) s1 G)
theorem e_callTy {x : Str} {p : Pos} {T : String} {r : List V → Hp → VK → Prop} {g' : List PV → R PV} (hc : CallR X (.type T) r) (hgn : ∀ ps c, g' ps ≠ .exc c) (ho : CallS X.K r m1 m g') (hg : Gl X x) (hm : X.mg x = none) (hv : bootBuiltins x = some (.type T)) (ha : AJ X W m1 (e :: es) fA) (hn : x ≠ "__name__" := by decide) (hdb : (x == ("__debug__" : Str)) = false := by decide)
    (he : starEach (e :: es) X.env = (false, eval e X.env) :: starEach es X.env := by rfl) (hpl : (backTo pos (starEach es X.env)).any (·.1) = false := by rfl) : EJ X W m (.Call (.Name x p) (e :: es) [] pos) (eD g' fA) := by
  refine pe_imp (pe_callTy hc hg hm hv ha hn hdb he hpl) fun σ H Q ⟨H0, O0, ρ, S, G⟩ => ⟨H0, O0, ρ, S, ?_⟩
  revert G
  unfold eD
  cases fA ρ with
  | stuck => exact False.elim
  | exc c => exact fun G => G
  | ok ps => exact fun G vs H1 s1 r1 => ho S s1 r1 (Got.v (hgn ps) s1 G)
def RepR (K : PySem.W.Frag) (O : Addr → Prop) : Bool → Hp → Hp → V → PV → Prop
  | false, _, H', v, p => Rep K H' O v p
  | true, H, H', v, p => ∃ a vs ps, v = .ref a ∧ p = .lst ps ∧ H a = none ∧ H' a = some (.lst vs) ∧ Reps K H' (fun b => O b ∨ b = a) vs ps
/-- the def's promise: n arguments; the function of their values; whether what it hands back is a new list -/
def spF (K : PySem.W.Frag) (mg : Str → Option Value) (n : Nat) (nw : Bool) (F : List PV → R PV) : Sp := fun vs H Q E =>
  ∃ ps O, (∀ a, O a → H a ≠ none) ∧ Reps K H O vs ps ∧ vs.length = n ∧ (match F ps with
    | .ok p => ∀ v H', Same H H' → RepR K O nw H H' v p → Q v H'
    | .exc c => ∀ C H', Same H H' → mg c = some (.ref C) → E (.ref C) none H'
    | .stuck => False)
def mdR : Bool → Md | false => .s | true => .f
theorem e_call {x : Str} {p : Pos} {k : Nat} {fa : Addr} {fd : FuncData} {pn : List Str} {n : Nat} {nw : Bool} {F : List PV → R PV} {dvs : List V} {dps : List PV} {ds : List Value} (Fo : FnOk X.prog X.w X.K X.mg X.base (L2N.CX X.prog X.w) k fa fd pn (spF X.K X.mg n nw F)) (hr : Room k X.A) (hg : Gl X x) (hm : X.mg x = some (.ref fa))
    (hk : PySem.W.keepIn X.K (.ref fa) = true) (hb : L2.Binds X.K fd pn ds) (hd : Vals dvs ds) (hdp : ∀ H O, Reps X.K H O dvs dps) (tk : L2N.Takes X W) (ha : AJ X W .s (e :: es) fA) (hlen : n = es.length + 1 + dvs.length := by rfl) (hal : ∀ ρ ps, fA ρ = .ok ps → ps.length = es.length + 1) (hdb : (x == ("__debug__" : Str)) = false := by decide)
    (he : starEach (e :: es) X.env = (false, eval e X.env) :: starEach es X.env := by rfl) (hpl : (backTo pos (starEach es X.env)).any (·.1) = false := by rfl) : EJ X W (mdR nw) (.Call (.Name x p) (e :: es) [] pos) (eD (fun ps => F (ps ++ dps)) fA) := by
  refine pe_imp (pe_callSD (E := fun σ cls d H => W cls d σ H) Fo hr hg hm hk hb hd (fun σ => L2N.passAt tk σ) ha hdb he hpl) fun σ H Q ⟨H0, O0, ρ, S, G⟩ => ⟨H0, O0, ρ, S, ?_⟩
  revert G
  unfold eD
  cases hA : fA ρ with
  | stuck => exact False.elim
  | exc c => exact id
  | ok ps =>
    intro G vs H1 s1 r1
    have rr := reps_of r1
    refine ⟨ps ++ dps, OO O0 σ ρ, fun a z => (S.step s1).there z, rr.append (hdp _ _), ?_, ?_⟩
    · rw [List.length_append, rr.length, hal ρ ps hA, hlen]
    · revert G
      rw [R.bind_ok]
      cases F (ps ++ dps) with
      | stuck => exact id
      | exc c => exact fun G C H' s' e => G C H' (s1.trans s') e
      | ok p =>
        intro G v H' s' r'
        refine G v H' (s1.trans s') ?_
        cases nw with
        | false => exact r'
        | true =>
          obtain ⟨a, vs', ps', q1, q2, q3, q4, q5⟩ := r'
          exact ⟨a, vs', ps', q1, q2, s1.free q3, q4, q5⟩
end
end PL
set_option Elab.async false
set_option linter.all false
set_option maxRecDepth 100000
set_option autoImplicit false
namespace PL
open PySem PySem.Spec L2
open PyProof.Rows hiding St
section
variable {K : PySem.W.Frag} {H0 H H1 H2 : Hp} {O0 : Addr → Prop} {σ : St} {ρ : Rho} {x : V} {p : PV}
theorem rt_int {i : Int} (r : RepM K O0 σ ρ .t H H2 x (.int i)) : x = .int i := by
  rcases r with r | ⟨_, _, _, _, e, _⟩
  · cases r; rfl
  · cases e
theorem rt_str {i : Str} (r : RepM K O0 σ ρ .t H H2 x (.str i)) : x = .str i := by
  rcases r with r | ⟨_, _, _, _, e, _⟩
  · cases r; rfl
  · cases e
theorem rt_lst {l : List PV} (r : RepM K O0 σ ρ .t H H2 x (.lst l)) : ∃ a vs, x = .ref a ∧ H2 a = some (.lst vs) ∧ Reps K H2 (OO O0 σ ρ) vs l := by
  rcases r with r | ⟨a, vs, ps, e1, e2, e3, e4⟩
  · cases r with
    | lst h _ r => exact ⟨_, _, rfl, h, r⟩
  · cases e2; exact ⟨a, vs, e1, e3, e4⟩
theorem sqT_of {O : Addr → Prop} {a : Addr} {xs : List V} (h : H a = some (.tup xs) ∧ ¬ O a ∨ KT K a xs) : SqT K H a xs := by
  rcases h with ⟨h, _⟩ | h
  · exact .inl (.inl h)
  · exact .inr h
theorem rt_tup {l : List PV} (r : RepM K O0 σ ρ .t H H2 x (.tup l)) : ∃ a vs, x = .ref a ∧ (H2 a = some (.tup vs) ∧ ¬ OO O0 σ ρ a ∨ KT K a vs) ∧ Reps K H2 (OO O0 σ ρ) vs l := by
  rcases r with r | ⟨a, vs, ps, e1, e2, e3, e4⟩
  · cases r with
    | tup h r => exact ⟨_, _, rfl, h, r⟩
  · cases e2
theorem rt_frz {l : List PV} (r : RepM K O0 σ ρ .t H H2 x (.frz l)) : ∃ (a : Addr) (ns : List Int), x = .ref a ∧ l = ns.map PV.int ∧ SqL K H2 a (ns.map V.int) := by
  rcases r with r | ⟨a, vs, ps, e1, e2, e3, e4⟩
  · generalize hl : PV.frz l = q at r
    cases r with
    | frz h =>
      cases hl
      refine ⟨_, _, rfl, rfl, ?_⟩
      rcases h with ⟨⟨o, h⟩, _⟩ | h
      · exact .inl (.inr ⟨o, h⟩)
      · exact h _
    | _ => cases hl
  · cases e2
end
def addP : PV → PV → R PV
  | .int a, .int b => .ok (.int (a + b))
  | .str a, .str b => if a.length + b.length ≤ sizeLine then .ok (.str (a ++ b)) else .stuck
  | .tup a, .tup b => if a.length + b.length ≤ sizeLine then .ok (.tup (a ++ b)) else .stuck
  | .lst a, .lst b => if a.length + b.length ≤ sizeLine then .ok (.lst (a ++ b)) else .stuck
  | _, _ => .stuck
theorem addP_exc (p q : PV) (c : Str) : addP p q ≠ .exc c := by
  unfold addP; split <;> (try split) <;> exact fun z => nomatch z
def rAddP (K : PySem.W.Frag) : R2 := fun x y H Q => rI0 (fun i j => .int (i + j)) x y H Q ∨ (∃ i j, x = .str i ∧ y = .str j ∧ i.length + j.length ≤ sizeLine ∧ Q (.str (i ++ j)) H) ∨ rCatA K x y H Q ∨ rCat x y H Q
theorem op_addP {X : Cx} : OpR X (binaryOp .Add) (rAddP X.K) := op_add.or (op_add_str.or (op_catA.or op_cat))
theorem cat_s {K : PySem.W.Frag} {H0 H H2 : Hp} {O0 : Addr → Prop} {σ : St} {ρ : Rho} {x y : V} {a b : List PV} {Q : VK} (S : StR K H0 O0 H σ ρ) (s : Same H H2) (rx : RepM K O0 σ ρ .t H H2 x (.lst a)) (ry : RepM K O0 σ ρ .t H H2 y (.lst b))
    (hz : a.length + b.length ≤ sizeLine) (G : ∀ v H', Same H2 H' → RepM K O0 σ ρ .f H H' v (.lst (a ++ b)) → Q v H') : rCat x y H2 Q := by
  obtain ⟨c, vs, rfl, h1, r1⟩ := rt_lst rx
  obtain ⟨d, ws, rfl, h2, r2⟩ := rt_lst ry
  exact ⟨c, d, vs, ws, rfl, rfl, h1, h2, by rw [r1.length, r2.length]; exact hz, fun l hl => G _ _ (same_new hl) (new_lst (H0 := H0) s (r1.append r2) hl)⟩
theorem s_addP (K : PySem.W.Frag) : OpS K (rAddP K) .t .t .s addP := by
  intro H0 O0 σ ρ H H2 x y p q Q S s rx ry G
  unfold addP at G
  split at G
  · rw [rt_int rx, rt_int ry]; exact .inl ⟨_, _, rfl, rfl, G _ _ (Same.refl _) (.int _)⟩
  · split at G
    · rename_i hz
      rw [rt_str rx, rt_str ry]; exact .inr (.inl ⟨_, _, rfl, rfl, hz, G _ _ (Same.refl _) (.str _)⟩)
    · exact G.elim
  · split at G
    · rename_i hz
      obtain ⟨c, vs, rfl, h1, r1⟩ := rt_tup rx
      obtain ⟨d, ws, rfl, h2, r2⟩ := rt_tup ry
      refine .inr (.inr (.inl ⟨c, d, vs, ws, rfl, rfl, sqT_of h1, sqT_of h2, by rw [r1.length, r2.length]; exact hz, fun e => ?_, fun _ e => ?_, fun _ _ l hl => ?_⟩))
      · subst e
        cases r1
        exact G _ _ (Same.refl _) (.tup h2 r2)
      · subst e
        cases r2
        rw [List.append_nil] at G
        exact G _ _ (Same.refl _) (.tup h1 r1)
      · exact G _ _ (same_new hl) (new_tup (H := H) (S.step s) (r1.append r2) hl)
    · exact G.elim
  · split at G
    · rename_i hz
      exact .inr (.inr (.inr (cat_s S s rx ry hz fun v H' s' r' => G v H' s' (RepM.f_s S r'))))
    · exact G.elim
  · exact G.elim
/-- an operation of two ints -/
def intP (c : Int → Int → Bool) (g : Int → Int → PV) : PV → PV → R PV
  | .int a, .int b => if c a b = true then .ok (g a b) else .stuck
  | _, _ => .stuck
theorem intP_exc {c : Int → Int → Bool} {g : Int → Int → PV} (p q : PV) (k : Str) : intP c g p q ≠ .exc k := by
  unfold intP; split <;> (try split) <;> exact fun z => nomatch z
theorem s_int {K : PySem.W.Frag} {C : Int → Int → Prop} {c : Int → Int → Bool} {gv : Int → Int → V} {g : Int → Int → PV} (hc : ∀ a b, c a b = true → C a b) (hr : ∀ H O a b, Rep K H O (gv a b) (g a b)) : OpS K (rI C gv) .t .t .s (intP c g) := by
  intro H0 O0 σ ρ H H2 x y p q Q S s rx ry G
  unfold intP at G
  split at G
  · split at G
    · rename_i hz
      rw [rt_int rx, rt_int ry]; exact ⟨_, _, rfl, rfl, hc _ _ hz, G _ _ (Same.refl _) (hr _ _ _ _)⟩
    · exact G.elim
  · exact G.elim
theorem s_int0 {K : PySem.W.Frag} {gv : Int → Int → V} {g : Int → Int → PV} (hr : ∀ H O a b, Rep K H O (gv a b) (g a b)) : OpS K (rI0 gv) .t .t .s (intP (fun _ _ => true) g) := by
  intro H0 O0 σ ρ H H2 x y p q Q S s rx ry G
  unfold intP at G
  split at G
  · rw [if_pos rfl] at G
    rw [rt_int rx, rt_int ry]; exact ⟨_, _, rfl, rfl, G _ _ (Same.refl _) (hr _ _ _ _)⟩
  · exact G.elim
abbrev subP := intP (fun _ _ => true) fun a b => .int (a - b)
abbrev okMul (a b : Int) : Bool := decide (a.natAbs.log2 + b.natAbs.log2 < 100000000)
/-- factors of together less than a hundred million bits -/
def CMulV (i j : Int) : Prop := i.natAbs.log2 + j.natAbs.log2 < 100000000
theorem CMulV.okM {i j : Int} (h : CMulV i j) : IntMulOk i j := by
  have b : ∀ y : Int, Builtin.Int.intBits y ≤ y.natAbs.log2 + 1 := fun y => by unfold Builtin.Int.intBits; split <;> omega
  have h1 := b i
  have h2 := b j
  unfold CMulV at h
  exact CMulX.ok (show CMulX i j by unfold CMulX; omega)
theorem op_mulV {X : Cx} : OpR X (binaryOp .Mult) (rI CMulV fun i j => .int (i * j)) := opI fun _ _ _ _ _ _ _ hc q => mul_int q hc.okM
abbrev mulP := intP okMul fun a b => .int (a * b)
abbrev okDiv (_ b : Int) : Bool := decide (b ≠ 0) && decide (b.natAbs.log2 < 9000)
abbrev fdivP := intP okDiv fun a b => .int (a.fdiv b)
abbrev modP := intP (fun _ b => decide (b ≠ 0)) fun a b => .int (a.fmod b)
abbrev okPow (a b : Int) : Bool := decide (0 ≤ b) && decide (b ≤ 1000000) && decide (a.natAbs < 2 ^ 64)
abbrev powP := intP okPow fun a b => .int (a ^ b.toNat)
abbrev ltP := intP (fun _ _ => true) fun a b => .bl (decide (a < b))
abbrev leP := intP (fun _ _ => true) fun a b => .bl (decide (a ≤ b))
abbrev gtP := intP (fun _ _ => true) fun a b => .bl (decide (b < a))
abbrev geP := intP (fun _ _ => true) fun a b => .bl (decide (b ≤ a))
def CDivA (i j : Int) : Prop := j ≠ 0 ∧ j.natAbs.log2 < 9000
theorem op_fdivA {X : Cx} : OpR X (binaryOp .FloorDiv) (rI CDivA fun i j => .int (i.fdiv j)) := opI fun i j _ _ _ _ _ hc q => floordiv_int hc.1 q (.inl (PyProof.noPylong_of_log2 hc.2))
theorem iop_mulW {X : Cx} : OpR X (inplaceOp .Mult) (rI CMulV fun i j => .int (i * j)) := opI fun _ _ _ _ _ _ _ hc q => imul_int q hc.okM
theorem okDiv_C (a b : Int) (h : okDiv a b = true) : CDivA a b := by
  rw [Bool.and_eq_true, decide_eq_true_eq, decide_eq_true_eq] at h; exact h
theorem okPow_C (a b : Int) (h : okPow a b = true) : CPow a b := by
  rw [Bool.and_eq_true, Bool.and_eq_true, decide_eq_true_eq, decide_eq_true_eq, decide_eq_true_eq] at h; exact ⟨h.1.1, h.1.2, h.2⟩
section
variable {X : Cx} {W : WX} {e a b c : Expr} {pos : Pos} {m : Md} {f g h : Rho → R PV}
theorem e_add (ha : EJ X W .t a f) (hb : EJ X W .t b g) : EJ X W .s (.BinOp a .Add b pos) (e2 addP f g) := e_op op_addP addP_exc (s_addP _) ha hb
theorem e_sub (ha : EJ X W .t a f) (hb : EJ X W .t b g) : EJ X W .s (.BinOp a .Sub b pos) (e2 subP f g) := e_op op_sub intP_exc (s_int0 fun _ _ _ _ => .int _) ha hb
theorem e_mul (ha : EJ X W .t a f) (hb : EJ X W .t b g) : EJ X W .s (.BinOp a .Mult b pos) (e2 mulP f g) := e_op op_mulV intP_exc (s_int (fun _ _ h => of_decide_eq_true h) fun _ _ _ _ => .int _) ha hb
theorem e_fdiv (ha : EJ X W .t a f) (hb : EJ X W .t b g) : EJ X W .s (.BinOp a .FloorDiv b pos) (e2 fdivP f g) := e_op op_fdivA intP_exc (s_int okDiv_C fun _ _ _ _ => .int _) ha hb
theorem e_mod (ha : EJ X W .t a f) (hb : EJ X W .t b g) : EJ X W .s (.BinOp a .Mod b pos) (e2 modP f g) := e_op op_modN intP_exc (s_int (fun _ _ h => of_decide_eq_true h) fun _ _ _ _ => .int _) ha hb
theorem e_pow (ha : EJ X W .t a f) (hb : EJ X W .t b g) : EJ X W .s (.BinOp a .Pow b pos) (e2 powP f g) := e_op op_pow intP_exc (s_int okPow_C fun _ _ _ _ => .int _) ha hb
theorem t_lt (ha : EJ X W .t a f) (hb : EJ X W .t b g) : TJ X W (.Compare a [.Lt] [b] pos) (tB1 (e2 ltP f g)) := t_cmp op_lt intP_exc (s_int0 fun _ _ _ _ => .bl _) ha hb (nomark _)
theorem t_le (ha : EJ X W .t a f) (hb : EJ X W .t b g) : TJ X W (.Compare a [.LtE] [b] pos) (tB1 (e2 leP f g)) := t_cmp op_le intP_exc (s_int0 fun _ _ _ _ => .bl _) ha hb (nomark _)
theorem t_gt (ha : EJ X W .t a f) (hb : EJ X W .t b g) : TJ X W (.Compare a [.Gt] [b] pos) (tB1 (e2 gtP f g)) := t_cmp op_gt intP_exc (s_int0 fun _ _ _ _ => .bl _) ha hb (nomark _)
def negP : PV → R PV
  | .int a => .ok (.int (-a))
  | _ => .stuck
theorem e_neg (ha : EJ X W .t a f) : EJ X W .s (.UnaryOp .USub a pos) (e1 negP f) := by
  refine e_un un_neg (fun p c => ?_) ?_ ha
  · unfold negP; split <;> exact fun z => nomatch z
  · intro H0 O0 σ ρ H H2 x p Q S s rx G
    unfold negP at G
    split at G
    · rw [rt_int rx]; exact ⟨_, rfl, G _ _ (Same.refl _) (.int _)⟩
    · exact G.elim
end
mutual
def toD : PV → PyData
  | .non => .none
  | .bl b => .bool b
  | .int i => .int i
  | .str s => .str s
  | .tup l => .tuple (toDs l)
  | .lst l => .list (toDs l)
  | .frz l => .list (toDs l)
  | .dct => .dict []
def toDs : List PV → List PyData
  | [] => []
  | p :: ps => toD p :: toDs ps
end
mutual
def eqV' : PV → PV → Bool
  | .non, .non => true
  | .bl a, .bl b => a == b
  | .bl a, .int j => (if a then 1 else 0) == j
  | .int i, .bl b => i == (if b then 1 else 0)
  | .int i, .int j => i == j
  | .str x, .str y => x == y
  | .lst xs, .lst ys => eqVs xs ys
  | .lst xs, .frz ys => eqVs xs ys
  | .frz xs, .lst ys => eqVs xs ys
  | .frz xs, .frz ys => eqVs xs ys
  | .tup xs, .tup ys => eqVs xs ys
  | _, _ => false
def eqVs : List PV → List PV → Bool
  | [], [] => true
  | x :: xs, y :: ys => eqV' x y && eqVs xs ys
  | _, _ => false
end
/-- data that may be compared, by how deep it is -/
def okD : Nat → PV → Bool
  | _, .non => true
  | _, .bl _ => true
  | _, .int _ => true
  | _, .str s => PySem.PyData.strOk s
  | n + 1, .tup l => l.all (okD n)
  | n + 1, .lst l => l.all (okD n)
  | n + 1, .frz l => l.all (okD n)
  | _, _ => false
def eqP (p q : PV) : R PV := if (okD 30 p && okD 30 q) = true then .ok (.bl (eqV' p q)) else .stuck
def neP (p q : PV) : R PV := if (okD 30 p && okD 30 q) = true then .ok (.bl (!eqV' p q)) else .stuck
mutual
theorem eqv_toD : ∀ p q : PV, PyData.eqv (toD p) (toD q) = eqV' p q
  | .lst a, .lst b | .lst a, .frz b | .frz a, .lst b | .frz a, .frz b | .tup a, .tup b => by simp only [toD, PyData.eqv, eqV', eqv_toDs a b]
  | .non, q | .bl _, q | .int _, q | .str _, q | .dct, q => by cases q <;> simp only [toD, PyData.eqv, eqV']
  | .lst a, .non | .lst a, .bl _ | .lst a, .int _ | .lst a, .str _ | .lst a, .tup _ | .lst a, .dct => by simp only [toD, PyData.eqv, eqV']
  | .frz a, .non | .frz a, .bl _ | .frz a, .int _ | .frz a, .str _ | .frz a, .tup _ | .frz a, .dct => by simp only [toD, PyData.eqv, eqV']
  | .tup a, .non | .tup a, .bl _ | .tup a, .int _ | .tup a, .str _ | .tup a, .lst _ | .tup a, .frz _ | .tup a, .dct => by simp only [toD, PyData.eqv, eqV']
theorem eqv_toDs : ∀ p q : List PV, PyData.eqvAll (toDs p) (toDs q) = eqVs p q
  | [], [] => by simp only [toDs, PyData.eqvAll, eqVs]
  | x :: xs, y :: ys => by simp only [toDs, PyData.eqvAll, eqVs, eqv_toD x y, eqv_toDs xs ys]
  | [], _ :: _ => by simp only [toDs, PyData.eqvAll, eqVs]
  | _ :: _, [] => by simp only [toDs, PyData.eqvAll, eqVs]
end
mutual
theorem okD_lay : ∀ (n : Nat) (p : PV), okD n p = true → (toD p).canLay0 = true ∧ (toD p).depth ≤ n
  | n, .non, _ => ⟨rfl, Nat.zero_le _⟩
  | n, .bl _, _ => ⟨rfl, Nat.zero_le _⟩
  | n, .int _, _ => ⟨rfl, Nat.zero_le _⟩
  | n, .str s, h => ⟨by simpa only [toD, PyData.canLay0, okD] using h, Nat.zero_le _⟩
  | n, .dct, h => by simp [okD] at h
  | 0, .tup l, h => by simp [okD] at h
  | 0, .lst l, h => by simp [okD] at h
  | 0, .frz l, h => by simp [okD] at h
  | n + 1, .tup l, h => by
    have z := okDs_lay n l (by simpa only [okD] using h)
    simp only [toD, PyData.canLay0, PyData.depth]
    exact ⟨z.1, by omega⟩
  | n + 1, .lst l, h => by
    have z := okDs_lay n l (by simpa only [okD] using h)
    simp only [toD, PyData.canLay0, PyData.depth]
    exact ⟨z.1, by omega⟩
  | n + 1, .frz l, h => by
    have z := okDs_lay n l (by simpa only [okD] using h)
    simp only [toD, PyData.canLay0, PyData.depth]
    exact ⟨z.1, by omega⟩
theorem okDs_lay : ∀ (n : Nat) (l : List PV), l.all (okD n) = true → PyData.canLayAll0 (toDs l) = true ∧ PyData.depthAll (toDs l) ≤ n
  | n, [], _ => ⟨rfl, Nat.zero_le _⟩
  | n, p :: ps, h => by
    rw [List.all_cons, Bool.and_eq_true] at h
    have z1 := okD_lay n p h.1
    have z2 := okDs_lay n ps h.2
    simp only [toDs, PyData.canLayAll0, PyData.depthAll, z1.1, z2.1]
    exact ⟨rfl, Nat.max_le.mpr ⟨z1.2, z2.2⟩⟩
end
theorem okD_shaped {p : PV} (h : okD 30 p = true) : SeqAt.shaped (toD p) = true := by
  have z := okD_lay 30 p h
  unfold SeqAt.shaped
  rw [z.1, decide_eq_true (show (toD p).depth ≤ 64 by omega)] <;> rfl
theorem toDs_ints : ∀ ns : List Int, toDs (ns.map PV.int) = ns.map PyData.int
  | [] => rfl
  | n :: ns => by simp only [List.map_cons, toDs, toD, toDs_ints ns]
theorem dpAll_ints {K : PySem.W.Frag} {H : Hp} : ∀ ns : List Int, DpAll K H (ns.map V.int) (toDs (ns.map PV.int))
  | [] => by simp only [List.map_nil, toDs]; exact .nil
  | n :: ns => by simp only [List.map_cons, toDs, toD]; exact .cons (.int n) (dpAll_ints ns)
mutual
theorem rep_dp {K : PySem.W.Frag} {H : Hp} {O : Addr → Prop} : ∀ {v : V} {p : PV} (n : Nat), Rep K H O v p → okD n p = true → Dp K H v (toD p)
  | _, _, _, .non, _ => by simp only [toD]; exact .non
  | _, _, _, .bl b, _ => by simp only [toD]; exact .bl b
  | _, _, _, .int i, _ => by simp only [toD]; exact .int i
  | _, _, _, .str s, _ => by simp only [toD]; exact .str s
  | _, _, 0, .lst _ _ _, h => by simp [okD] at h
  | _, _, n + 1, .lst h1 _ r, h => by simp only [toD]; exact .lst (.inl (.inl h1)) (reps_dp n r (by simpa only [okD] using h))
  | _, _, 0, .tup _ _, h => by simp [okD] at h
  | _, _, n + 1, .tup h1 r, h => by simp only [toD]; exact .tup (sqT_of h1) (reps_dp n r (by simpa only [okD] using h))
  | _, _, _, .frz h1, h => by
    simp only [toD]
    refine .lst ?_ (dpAll_ints _)
    rcases h1 with ⟨⟨o, h1⟩, _⟩ | h1
    · exact .inl (.inr ⟨o, h1⟩)
    · exact h1 _
  | _, _, n, .dct _ _, h => by simp [okD] at h
theorem reps_dp {K : PySem.W.Frag} {H : Hp} {O : Addr → Prop} : ∀ {v : List V} {p : List PV} (n : Nat), Reps K H O v p → p.all (okD n) = true → DpAll K H v (toDs p)
  | _, _, _, .nil, _ => by simp only [toDs]; exact .nil
  | _, _, n, .cons h r, hz => by
    rw [List.all_cons, Bool.and_eq_true] at hz
    simp only [toDs]
    exact .cons (rep_dp n h hz.1) (reps_dp n r hz.2)
end
theorem rt_dp {K : PySem.W.Frag} {H H2 : Hp} {O0 : Addr → Prop} {σ : St} {ρ : Rho} {x : V} {p : PV} (r : RepM K O0 σ ρ .t H H2 x p) (h : okD 30 p = true) : Dp K H2 x (toD p) := by
  rcases r with r | ⟨a, vs, ps, rfl, rfl, e3, e4⟩
  · exact rep_dp 30 r h
  · simp only [toD]; exact .lst (.inl (.inl e3)) (reps_dp 29 e4 (by simpa only [okD] using h))
theorem eqP_exc (p q : PV) (c : Str) : eqP p q ≠ .exc c := by unfold eqP; split <;> exact fun z => nomatch z
theorem neP_exc (p q : PV) (c : Str) : neP p q ≠ .exc c := by unfold neP; split <;> exact fun z => nomatch z
theorem s_eq (K : PySem.W.Frag) : OpS K (rEqD K) .t .t .s eqP := by
  intro H0 O0 σ ρ H H2 x y p q Q S s rx ry G
  unfold eqP at G
  split at G
  · rename_i hz
    rw [Bool.and_eq_true] at hz
    exact ⟨_, _, rt_dp rx hz.1, rt_dp ry hz.2, okD_shaped hz.1, okD_shaped hz.2, by rw [eqv_toD]; exact G _ _ (Same.refl _) (.bl _)⟩
  · exact G.elim
theorem s_ne (K : PySem.W.Frag) : OpS K (rNeD K) .t .t .s neP := by
  intro H0 O0 σ ρ H H2 x y p q Q S s rx ry G
  unfold neP at G
  split at G
  · rename_i hz
    rw [Bool.and_eq_true] at hz
    exact ⟨_, _, rt_dp rx hz.1, rt_dp ry hz.2, okD_shaped hz.1, okD_shaped hz.2, by rw [eqv_toD]; exact G _ _ (Same.refl _) (.bl _)⟩
  · exact G.elim
section
variable {X : Cx} {W : WX} {e a b c : Expr} {pos : Pos} {m : Md} {f g h : Rho → R PV}
theorem e_eq (hu : X.A.units + 64 < cLine) (ha : EJ X W .t a f) (hb : EJ X W .t b g) : EJ X W .s (.Compare a [.Eq] [b] pos) (e2 eqP f g) := e_cmp (op_eqD hu) eqP_exc (s_eq _) ha hb (nomark _)
theorem e_ne (hu : X.A.units + 64 < cLine) (ha : EJ X W .t a f) (hb : EJ X W .t b g) : EJ X W .s (.Compare a [.NotEq] [b] pos) (e2 neP f g) := e_cmp (op_neD hu) neP_exc (s_ne _) ha hb (nomark _)
theorem t_eq (hu : X.A.units + 64 < cLine) (ha : EJ X W .t a f) (hb : EJ X W .t b g) : TJ X W (.Compare a [.Eq] [b] pos) (tB1 (e2 eqP f g)) := t_cmp (op_eqD hu) eqP_exc (s_eq _) ha hb (nomark _)
theorem t_ne (hu : X.A.units + 64 < cLine) (ha : EJ X W .t a f) (hb : EJ X W .t b g) : TJ X W (.Compare a [.NotEq] [b] pos) (tB1 (e2 neP f g)) := t_cmp (op_neD hu) neP_exc (s_ne _) ha hb (nomark _)
def eChain (g1 g2 : PV → PV → R PV) (f g h : Rho → R PV) : Rho → R PV := fun ρ => (f ρ).bind fun x => (g ρ).bind fun y => (g1 x y).bind fun z => (asB z).bind fun k => if k = true then (h ρ).bind fun w => g2 y w else .ok (.bl false)
theorem q_chain {r r' : R2} {g1 g2 : PV → PV → R PV} (hg1 : ∀ p q c, g1 p q ≠ .exc c) (hg2 : ∀ p q c, g2 p q ≠ .exc c) (ho : OpS X.K r .t .t .s g1) (ho' : OpS X.K r' .t .t .s g2) :
    ∀ σ H Q, tE X.K X.mg W .s (eChain g1 g2 f g h) σ H Q → tChain r r' (tE X.K X.mg W .t f) (tE X.K X.mg W .t g) (tE X.K X.mg W .t h) σ H Q := by
  intro σ H Q ⟨H0, O0, ρ, S, G⟩
  refine ⟨H0, O0, ρ, S, ?_⟩
  revert G
  unfold eChain
  cases f ρ with
  | stuck => exact False.elim
  | exc c => exact id
  | ok p =>
    intro G x H1 s1 r1
    refine ⟨H0, O0, ρ, S.step s1, ?_⟩
    revert G
    rw [R.bind_ok]
    cases g ρ with
    | stuck => exact False.elim
    | exc c => exact fun G C H' s' => G C H' (s1.trans s')
    | ok q =>
      intro G y H2 s2 r2
      refine ho S (s1.trans s2) (r1.step s2) (r2.back s1) ?_
      revert G
      rw [R.bind_ok]
      cases hz : g1 p q with
      | stuck => exact False.elim
      | exc c => exact absurd hz (hg1 p q c)
      | ok z =>
        intro G v H3 s3 r3
        revert G
        rw [R.bind_ok]
        cases z with
        | bl k =>
          intro G
          cases r3
          refine ⟨k, rfl, ?_⟩
          cases k with
          | false => rw [if_neg Bool.false_ne_true]; exact G _ _ ((s1.trans s2).trans s3) (.bl false)
          | true =>
            rw [if_pos rfl]
            have s123 := (s1.trans s2).trans s3
            refine ⟨H0, O0, ρ, S.step s123, ?_⟩
            have G' : Got X.K X.mg W O0 σ ρ .s H Q ((h ρ).bind fun w => g2 q w) := G
            revert G'
            cases h ρ with
            | stuck => exact False.elim
            | exc c => exact fun G C H' s' => G C H' (s123.trans s')
            | ok w =>
              intro G v H4 s4 r4
              exact ho' S (s123.trans s4) ((r2.back s1).step (s3.trans s4)) (r4.back s123) (Got.v (hg2 q w) (s123.trans s4) G)
        | _ => exact False.elim
theorem e_chain {op op' : CmpOp} {r r' : R2} {g1 g2 : PV → PV → R PV} (hr : OpR X (compareOp op) r) (hr' : OpR X (compareOp op') r') (hg1 : ∀ p q c, g1 p q ≠ .exc c) (hg2 : ∀ p q c, g2 p q ≠ .exc c) (ho : OpS X.K r .t .t .s g1) (ho' : OpS X.K r' .t .t .s g2)
    (ha : EJ X W .t a f) (hb : EJ X W .t b g) (hc : EJ X W .t c h) (hm : lastMarks [op, op'] [b, c] = false) : EJ X W .s (.Compare a [op, op'] [b, c] pos) (eChain g1 g2 f g h) :=
  pe_imp (pe_chain hr hr' ha hb hc hm) (q_chain hg1 hg2 ho ho')
theorem e_leLt (ha : EJ X W .t a f) (hb : EJ X W .t b g) (hc : EJ X W .t c h) (hm : lastMarks [.LtE, .Lt] [b, c] = false := by with_unfolding_all rfl) : EJ X W .s (.Compare a [.LtE, .Lt] [b, c] pos) (eChain leP ltP f g h) :=
  e_chain op_le op_lt intP_exc intP_exc (s_int0 fun _ _ _ _ => .bl _) (s_int0 fun _ _ _ _ => .bl _) ha hb hc hm
end
end PL
set_option Elab.async false
set_option linter.all false
set_option maxRecDepth 100000
set_option autoImplicit false
namespace PL
open PySem PySem.Spec L2
open PyProof.Rows hiding St
def ixP : PV → PV → R PV
  | .lst l, .int i | .tup l, .int i | .frz l, .int i => match atI l i with
    | some p => .ok p
    | none => .stuck
  | .str s, .int i => if s.length ≤ sizeLine then (match atI s.cps.toList i with
    | some c => .ok (.str ⟨#[c]⟩)
    | none => .stuck) else .stuck
  | _, _ => .stuck
theorem ixP_exc (p q : PV) (c : Str) : ixP p q ≠ .exc c := by
  unfold ixP; split <;> (try split) <;> (try split) <;> exact fun z => nomatch z
theorem reps_at {K : PySem.W.Frag} {H : Hp} {O : Addr → Prop} {vs : List V} {ps : List PV} {i : Int} {p : PV} (r : Reps K H O vs ps) (h : atI ps i = some p) : ∃ v, atI vs i = some v ∧ Rep K H O v p := by
  unfold atI at h ⊢
  rw [r.length]
  cases q : ixN ps.length i with
  | none => rw [q] at h; cases h
  | some j =>
    rw [q, Option.bind_some] at h
    rw [Option.bind_some]
    exact r.get h
theorem s_ix (K : PySem.W.Frag) : OpS K (rIx K) .t .t .s ixP := by
  intro H0 O0 σ ρ H H2 x y p q Q S s rx ry G
  unfold ixP at G
  split at G
  · split at G
    · rename_i p hp
      obtain ⟨a, vs, rfl, h1, r1⟩ := rt_lst rx
      obtain ⟨v, h2, r2⟩ := reps_at r1 hp
      exact .inl ⟨a, vs, _, v, rfl, rt_int ry, .inl (.inl h1), h2, G _ _ (Same.refl _) r2⟩
    · exact G.elim
  · split at G
    · rename_i p hp
      obtain ⟨a, vs, rfl, h1, r1⟩ := rt_tup rx
      obtain ⟨v, h2, r2⟩ := reps_at r1 hp
      exact .inr (.inl ⟨a, vs, _, v, rfl, rt_int ry, sqT_of h1, h2, G _ _ (Same.refl _) r2⟩)
    · exact G.elim
  · split at G
    · rename_i p hp
      obtain ⟨a, ns, rfl, rfl, h1⟩ := rt_frz rx
      obtain ⟨v, h2, r2⟩ := reps_at (K := K) (H := H2) (O := OO O0 σ ρ) (Reps.ofInts ns) hp
      exact .inl ⟨a, _, _, v, rfl, rt_int ry, h1, h2, G _ _ (Same.refl _) r2⟩
    · exact G.elim
  · split at G
    · rename_i hz
      split at G
      · rename_i c hc
        exact .inr (.inr ⟨_, _, c, rt_str rx, rt_int ry, hz, hc, G _ _ (Same.refl _) (.str _)⟩)
      · exact G.elim
    · exact G.elim
  · exact G.elim
def cutG {α : Type} (xs : List α) (lo hi : Option Int) : List α := (xs.drop (HT.sIx xs.length 0 lo)).take (HT.sIx xs.length xs.length hi - HT.sIx xs.length 0 lo)
theorem reps_cut {K : PySem.W.Frag} {H : Hp} {O : Addr → Prop} {vs : List V} {ps : List PV} (lo hi : Option Int) (r : Reps K H O vs ps) : Reps K H O (cutV vs lo hi) (cutG ps lo hi) := by
  unfold cutV cutG
  rw [r.length]
  exact (r.drop _).take _
def slP (p : PV) (lo hi : Option Int) : R PV := match p with
  | .lst l | .frz l => .ok (.lst (cutG l lo hi))
  | .tup l => .ok (.tup (cutG l lo hi))
  | .str s => if s.length ≤ sizeLine then .ok (.str (cutS s lo hi)) else .stuck
  | _ => .stuck
def slL (p : PV) (lo hi : Option Int) : R PV := match p with
  | .lst l | .frz l => .ok (.lst (cutG l lo hi))
  | _ => .stuck
def asI : PV → R Int
  | .int i => .ok i
  | _ => .stuck
def oNone : Rho → R (Option Int) := fun _ => .ok none
def oSome (f : Rho → R PV) : Rho → R (Option Int) := fun ρ => (f ρ).bind fun p => (asI p).bind fun i => .ok (some i)
def eSl (g : PV → Option Int → Option Int → R PV) (f : Rho → R PV) (lo hi : Rho → R (Option Int)) : Rho → R PV := fun ρ => (f ρ).bind fun p => (lo ρ).bind fun l => (hi ρ).bind fun h => g p l h
def tO' (K : PySem.W.Frag) (mg : Str → Option Value) (W : WX) (f : Rho → R (Option Int)) : L2.TO := fun σ H Q =>
  ∃ H0 O0 ρ, StR K H0 O0 H σ ρ ∧ (match f ρ with
    | .ok o => ∀ H', Same H H' → Q o H'
    | .exc c => ∀ C H', Same H H' → mg c = some (.ref C) → W (.ref C) none σ H'
    | .stuck => False)
abbrev OJ (X : Cx) (W : WX) (e : Option Expr) (f : Rho → R (Option Int)) : Prop := PO X e (tO' X.K X.mg W f)
def SlS (K : PySem.W.Frag) (r : V → Option Int → Option Int → Hp → VK → Prop) (m : Md) (g : PV → Option Int → Option Int → R PV) : Prop :=
  ∀ {H0 O0 σ ρ H H2 x p lo hi} {Q : VK}, StR K H0 O0 H σ ρ → Same H H2 → RepM K O0 σ ρ .t H H2 x p → GotV K O0 σ ρ m H H2 Q (g p lo hi) → r x lo hi H2 Q
section
variable {X : Cx} {W : WX} {e a b c : Expr} {pos p2 : Pos} {m : Md} {f g h : Rho → R PV} {lo hi : Option Expr} {fl fh : Rho → R (Option Int)}
theorem po_imp {t t' : L2.TO} {e : Option Expr} (h : PO X e t) (q : ∀ σ H Q, t' σ H Q → t σ H Q) : PO X e t' := ⟨fun pins s σ H Q I hw => h.run pins s σ H Q I (q σ H Q hw)⟩
theorem o_none : OJ X W none oNone := by
  refine po_imp po_none fun σ H Q ⟨H0, O0, ρ, S, G⟩ => ?_
  exact G H (Same.refl H)
theorem o_some (ha : EJ X W .s e f) : OJ X W (some e) (oSome f) := by
  refine po_imp (po_some ha) fun σ H Q ⟨H0, O0, ρ, S, G⟩ => ⟨H0, O0, ρ, S, ?_⟩
  revert G
  unfold oSome
  cases f ρ with
  | stuck => exact False.elim
  | exc c => exact fun G => G
  | ok p =>
    cases p with
    | int i => exact fun G v H' s r => by cases r; exact ⟨i, rfl, G H' s⟩
    | _ => exact False.elim
theorem e_sl {r : V → Option Int → Option Int → Hp → VK → Prop} {g' : PV → Option Int → Option Int → R PV} (hr : SlR X r) (hg : ∀ p l h c, g' p l h ≠ .exc c) (ho : SlS X.K r m g') (ha : EJ X W .t a f) (hl : OJ X W lo fl) (hh : OJ X W hi fh) :
    EJ X W m (.Subscript a (.Slice lo hi none p2) pos) (eSl g' f fl fh) := by
  refine pe_imp (pe_slice hr ha hl hh) fun σ H Q ⟨H0, O0, ρ, S, G⟩ => ⟨H0, O0, ρ, S, ?_⟩
  revert G
  unfold eSl
  cases f ρ with
  | stuck => exact False.elim
  | exc c => exact fun G => G
  | ok p =>
    intro G x H1 s1 r1
    refine ⟨H0, O0, ρ, S.step s1, ?_⟩
    revert G
    rw [R.bind_ok]
    cases fl ρ with
    | stuck => exact False.elim
    | exc c => exact fun G C H' s' => G C H' (s1.trans s')
    | ok l =>
      intro G H2 s2
      refine ⟨H0, O0, ρ, S.step (s1.trans s2), ?_⟩
      revert G
      rw [R.bind_ok]
      cases fh ρ with
      | stuck => exact False.elim
      | exc c => exact fun G C H' s' => G C H' ((s1.trans s2).trans s')
      | ok h =>
        intro G H3 s3
        exact ho S ((s1.trans s2).trans s3) (r1.step (s2.trans s3)) (Got.v (hg p l h) ((s1.trans s2).trans s3) G)
def rSlP (K : PySem.W.Frag) : V → Option Int → Option Int → Hp → VK → Prop := fun x lo hi H Q => rSlL K x lo hi H Q ∨ rSlA K x lo hi H Q ∨ rSlS x lo hi H Q
theorem sl_P : SlR X (rSlP X.K) := sl_list.or (sl_tupA.or sl_str)
theorem slP_exc (p : PV) (l h : Option Int) (c : Str) : slP p l h ≠ .exc c := by
  unfold slP; split <;> (try split) <;> exact fun z => nomatch z
theorem slL_exc (p : PV) (l h : Option Int) (c : Str) : slL p l h ≠ .exc c := by
  unfold slL; split <;> exact fun z => nomatch z
theorem sl_ints (ns : List Int) (lo hi : Option Int) : cutV (ns.map V.int) lo hi = (cutG ns lo hi).map V.int ∧ cutG (ns.map PV.int) lo hi = (cutG ns lo hi).map PV.int := by
  unfold cutV cutG
  rw [List.length_map, List.length_map, List.map_take, List.map_drop, List.map_take, List.map_drop]
  exact ⟨rfl, rfl⟩
theorem s_slL (K : PySem.W.Frag) : SlS K (rSlL K) .f slL := by
  intro H0 O0 σ ρ H H2 x p lo hi Q S s rx G
  unfold slL at G
  split at G
  · obtain ⟨a, vs, rfl, h1, r1⟩ := rt_lst rx
    exact ⟨a, vs, rfl, .inl (.inl h1), fun q hq => G _ _ (same_new hq) (new_lst (H0 := H0) s (reps_cut lo hi r1) hq)⟩
  · obtain ⟨a, ns, rfl, rfl, h1⟩ := rt_frz rx
    refine ⟨a, _, rfl, h1, fun q hq => G _ _ (same_new hq) ?_⟩
    rw [(sl_ints ns lo hi).1, (sl_ints ns lo hi).2]
    exact new_lst (H0 := H0) s (Reps.ofInts _) hq
  · exact G.elim
theorem s_slP (K : PySem.W.Frag) : SlS K (rSlP K) .s slP := by
  intro H0 O0 σ ρ H H2 x p lo hi Q S s rx G
  unfold slP at G
  split at G
  · exact .inl (s_slL K S s rx fun v H' s' r => G v H' s' (RepM.f_s S r))
  · exact .inl (s_slL K S s rx fun v H' s' r => G v H' s' (RepM.f_s S r))
  · obtain ⟨a, vs, rfl, h1, r1⟩ := rt_tup rx
    refine .inr (.inl ⟨a, vs, rfl, sqT_of h1, fun ⟨z1, z2⟩ => ?_, fun _ q hq => G _ _ (same_new hq) (new_tup (H := H) (S.step s) (reps_cut lo hi r1) hq)⟩)
    have e : ∀ {α : Type} (l : List α), l.length = vs.length → cutG l lo hi = l := fun l hl => by
      unfold cutG
      rw [hl, z1, z2, List.drop_zero, Nat.sub_zero, ← hl, List.take_length]
    rw [e _ r1.length.symm] at G
    exact G _ _ (Same.refl _) (.tup h1 r1)
  · split at G
    · rename_i hz
      exact .inr (.inr ⟨_, rt_str rx, hz, G _ _ (Same.refl _) (.str _)⟩)
    · exact G.elim
  · exact G.elim
theorem e_slice (ha : EJ X W .t a f) (hl : OJ X W lo fl) (hh : OJ X W hi fh) : EJ X W .s (.Subscript a (.Slice lo hi none p2) pos) (eSl slP f fl fh) := e_sl sl_P slP_exc (s_slP _) ha hl hh
theorem e_sliceL (ha : EJ X W .t a f) (hl : OJ X W lo fl) (hh : OJ X W hi fh) : EJ X W .f (.Subscript a (.Slice lo hi none p2) pos) (eSl slL f fl fh) := e_sl sl_list slL_exc (s_slL _) ha hl hh
theorem e_item (ha : EJ X W .t a f) (hb : EJ X W .t b g) (hs : PlainIx b) : EJ X W .s (.Subscript a b pos) (e2 ixP f g) := e_ix ix_seq ixP_exc (s_ix _) ha hb hs
end
def lenP : List PV → R PV
  | [.lst l] | [.tup l] | [.frz l] => .ok (.int l.length)
  | [.str s] => if s.length ≤ sizeLine then .ok (.int s.length) else .stuck
  | _ => .stuck
def absP : List PV → R PV
  | [.int i] => .ok (.int (if i < 0 then -i else i))
  | _ => .stuck
def maxP : List PV → R PV
  | [.int i, .int j] => .ok (.int (if j > i then j else i))
  | _ => .stuck
def listP : List PV → R PV
  | [.lst l] | [.tup l] | [.frz l] => .ok (.lst l)
  | _ => .stuck
def tupleP : List PV → R PV
  | [.lst l] | [.tup l] | [.frz l] => .ok (.tup l)
  | _ => .stuck
def asBs : List PV → Option (List Bool)
  | [] => some []
  | .bl b :: r => (asBs r).map (b :: ·)
  | _ => none
def allP : List PV → R PV
  | [.lst l] => match asBs l with
    | some bs => .ok (.bl (bs.all id))
    | none => .stuck
  | _ => .stuck
def divmodP : List PV → R PV
  | [.int i, .int j] => if 0 < j ∧ j.natAbs.log2 < 9000 then .ok (.tup [.int (i / j), .int (i % j)]) else .stuck
  | _ => .stuck
theorem asBs_map : ∀ {l : List PV} {bs : List Bool}, asBs l = some bs → l = bs.map PV.bl
  | [], _, h => by cases h; rfl
  | .bl b :: r, bs, h => by
    unfold asBs at h
    obtain ⟨cs, h1, rfl⟩ := Option.map_eq_some_iff.mp h
    rw [asBs_map h1]; rfl
  | .non :: _, _, h | .int _ :: _, _, h | .str _ :: _, _, h | .tup _ :: _, _, h | .lst _ :: _, _, h | .frz _ :: _, _, h | .dct :: _, _, h => by simp [asBs] at h
theorem asBs_of : ∀ bs : List Bool, asBs (bs.map PV.bl) = some bs
  | [] => rfl
  | b :: bs => by simp [asBs, asBs_of bs]
section
variable {X : Cx} {W : WX}
theorem pr1 {F : V → PV → Prop} {vs : List V} {p : PV} (h : Paired F vs [p]) : ∃ v, vs = [v] ∧ F v p := by
  cases h with
  | cons a r => cases r; exact ⟨_, rfl, a⟩
theorem pr2 {F : V → PV → Prop} {vs : List V} {p q : PV} (h : Paired F vs [p, q]) : ∃ v w, vs = [v, w] ∧ F v p ∧ F w q := by
  cases h with
  | cons a r =>
    obtain ⟨w, rfl, b⟩ := pr1 r
    exact ⟨_, _, rfl, a, b⟩
theorem s_len (K : PySem.W.Frag) : CallS K (fun xs H Q => ∃ x n, xs = [x] ∧ LenV K x H n ∧ Q (.int n) H) .t .s lenP := by
  intro H0 O0 σ ρ H H2 xs ps Q S s r G
  unfold lenP at G
  split at G
  · obtain ⟨v, rfl, r1⟩ := pr1 r
    obtain ⟨a, vs, rfl, h1, r2⟩ := rt_lst r1
    exact ⟨_, vs.length, rfl, .inl ⟨vs, .inl (.inl h1), rfl⟩, by rw [r2.length]; exact G _ _ (Same.refl _) (.int _)⟩
  · obtain ⟨v, rfl, r1⟩ := pr1 r
    obtain ⟨a, vs, rfl, h1, r2⟩ := rt_tup r1
    exact ⟨_, vs.length, rfl, .inr ⟨vs, sqT_of h1, rfl⟩, by rw [r2.length]; exact G _ _ (Same.refl _) (.int _)⟩
  · obtain ⟨v, rfl, r1⟩ := pr1 r
    obtain ⟨a, ns, rfl, rfl, h1⟩ := rt_frz r1
    refine ⟨_, _, rfl, .inl ⟨_, h1, rfl⟩, ?_⟩
    rw [List.length_map] at G ⊢
    exact G _ _ (Same.refl _) (.int _)
  · split at G
    · rename_i hz
      obtain ⟨v, rfl, r1⟩ := pr1 r
      rw [rt_str r1]
      exact ⟨_, _, rfl, ⟨hz, rfl⟩, G _ _ (Same.refl _) (.int _)⟩
    · exact G.elim
  · exact G.elim
theorem s_abs (K : PySem.W.Frag) : CallS K (fun xs H Q => ∃ i, xs = [.int i] ∧ Q (.int (if i < 0 then -i else i)) H) .t .s absP := by
  intro H0 O0 σ ρ H H2 xs ps Q S s r G
  unfold absP at G
  split at G
  · obtain ⟨v, rfl, r1⟩ := pr1 r
    rw [rt_int r1]; exact ⟨_, rfl, G _ _ (Same.refl _) (.int _)⟩
  · exact G.elim
theorem s_max (K : PySem.W.Frag) : CallS K (fun xs H Q => ∃ i j, xs = [.int i, .int j] ∧ Q (.int (if j > i then j else i)) H) .t .s maxP := by
  intro H0 O0 σ ρ H H2 xs ps Q S s r G
  unfold maxP at G
  split at G
  · obtain ⟨v, w, rfl, r1, r2⟩ := pr2 r
    rw [rt_int r1, rt_int r2]; exact ⟨_, _, rfl, G _ _ (Same.refl _) (.int _)⟩
  · exact G.elim
theorem s_tuple (K : PySem.W.Frag) : CallS K (fun xs H Q => ∃ p ys, xs = [.ref p] ∧ ((SqL K H p ys ∧ ∀ l, H l = none → Q (.ref l) (upd H l (.tup ys))) ∨ (SqT K H p ys ∧ Q (.ref p) H))) .t .s tupleP := by
  intro H0 O0 σ ρ H H2 xs ps Q S s r G
  unfold tupleP at G
  split at G
  · obtain ⟨v, rfl, r1⟩ := pr1 r
    obtain ⟨a, vs, rfl, h1, r2⟩ := rt_lst r1
    exact ⟨a, vs, rfl, .inl ⟨.inl (.inl h1), fun l hl => G _ _ (same_new hl) (new_tup (H := H) (S.step s) r2 hl)⟩⟩
  · obtain ⟨v, rfl, r1⟩ := pr1 r
    obtain ⟨a, vs, rfl, h1, r2⟩ := rt_tup r1
    exact ⟨a, vs, rfl, .inr ⟨sqT_of h1, G _ _ (Same.refl _) (.tup h1 r2)⟩⟩
  · obtain ⟨v, rfl, r1⟩ := pr1 r
    obtain ⟨a, ns, rfl, rfl, h1⟩ := rt_frz r1
    exact ⟨a, _, rfl, .inl ⟨h1, fun l hl => G _ _ (same_new hl) (new_tup (H := H) (S.step s) (Reps.ofInts ns) hl)⟩⟩
  · exact G.elim
theorem s_all (K : PySem.W.Frag) : CallS K (rAll K) .t .s allP := by
  intro H0 O0 σ ρ H H2 xs ps Q S s r G
  unfold allP at G
  split at G
  · split at G
    · rename_i bs hbs
      obtain ⟨v, rfl, r1⟩ := pr1 r
      rw [asBs_map hbs] at r1
      obtain ⟨a, vs, rfl, h1, r2⟩ := rt_lst r1
      rw [r2.bls] at h1
      exact ⟨a, bs, rfl, .inl (.inl h1), G _ _ (Same.refl _) (.bl _)⟩
    · exact G.elim
  · exact G.elim
theorem noPy {i j : Int} (h : j.natAbs.log2 < 9000) : Builtin.divisionGoesByPylong i j = false := PyProof.noPylong_of_log2 h
theorem s_divmod (K : PySem.W.Frag) : CallS K (fun xs H Q => ∃ i j, xs = [.int i, .int j] ∧ CDivP i j ∧ ∀ p, H p = none → Q (.ref p) (upd H p (.tup [.int (i / j), .int (i % j)]))) .t .s divmodP := by
  intro H0 O0 σ ρ H H2 xs ps Q S s r G
  unfold divmodP at G
  split at G
  · split at G
    · rename_i hz
      obtain ⟨v, w, rfl, r1, r2⟩ := pr2 r
      rw [rt_int r1, rt_int r2]
      exact ⟨_, _, rfl, ⟨hz.1, noPy hz.2⟩, fun l hl => G _ _ (same_new hl) (new_tup (H := H) (S.step s) (.cons (.int _) (.cons (.int _) .nil)) hl)⟩
    · exact G.elim
  · exact G.elim
theorem lenP_exc (ps : List PV) (c : Str) : lenP ps ≠ .exc c := by unfold lenP; split <;> (try split) <;> exact fun z => nomatch z
theorem absP_exc (ps : List PV) (c : Str) : absP ps ≠ .exc c := by unfold absP; split <;> exact fun z => nomatch z
theorem maxP_exc (ps : List PV) (c : Str) : maxP ps ≠ .exc c := by unfold maxP; split <;> exact fun z => nomatch z
theorem tupleP_exc (ps : List PV) (c : Str) : tupleP ps ≠ .exc c := by unfold tupleP; split <;> exact fun z => nomatch z
theorem allP_exc (ps : List PV) (c : Str) : allP ps ≠ .exc c := by unfold allP; split <;> (try split) <;> exact fun z => nomatch z
theorem divmodP_exc (ps : List PV) (c : Str) : divmodP ps ≠ .exc c := by unfold divmodP; split <;> (try split) <;> exact fun z => nomatch z
variable {e : Expr} {es : List Expr} {pos p : Pos} {fA : Rho → R (List PV)} {f : Rho → R PV}
theorem e_len (mg : X.mg "len" = none) (hg : Gl X "len") (ha : AJ X W .t [e] fA) (he : starEach [e] X.env = (false, eval e X.env) :: starEach [] X.env := by rfl) : EJ X W .s (.Call (.Name "len" p) [e] [] pos) (eD lenP fA) := e_callB call_len lenP_exc (s_len _) hg mg PySem.boot_len ha (he := he)
theorem e_abs (mg : X.mg "abs" = none) (hg : Gl X "abs") (ha : AJ X W .t [e] fA) (he : starEach [e] X.env = (false, eval e X.env) :: starEach [] X.env := by rfl) : EJ X W .s (.Call (.Name "abs" p) [e] [] pos) (eD absP fA) := e_callB call_abs absP_exc (s_abs _) hg mg (by decide +kernel) ha (he := he)
theorem e_tuple (mg : X.mg "tuple" = none) (hg : Gl X "tuple") (ha : AJ X W .t [e] fA) (he : starEach [e] X.env = (false, eval e X.env) :: starEach [] X.env := by rfl) : EJ X W .s (.Call (.Name "tuple" p) [e] [] pos) (eD tupleP fA) := e_callTy call_tuple_of tupleP_exc (s_tuple _) hg mg (by decide +kernel) ha (he := he)
theorem e_all (hc : X.calm = true) (mg : X.mg "all" = none) (hg : Gl X "all") (ha : AJ X W .t [e] fA) (he : starEach [e] X.env = (false, eval e X.env) :: starEach [] X.env := by rfl) : EJ X W .s (.Call (.Name "all" p) [e] [] pos) (eD allP fA) := e_callB (cr_all hc) allP_exc (s_all _) hg mg (by decide +kernel) ha (he := he)
theorem e_max2 (hc : X.calm = true) {e' : Expr} (mg : X.mg "max" = none) (hg : Gl X "max") (ha : AJ X W .t [e, e'] fA) (he : starEach [e, e'] X.env = (false, eval e X.env) :: starEach [e'] X.env := by rfl) (hpl : (backTo pos (starEach [e'] X.env)).any (·.1) = false := by rfl) : EJ X W .s (.Call (.Name "max" p) [e, e'] [] pos) (eD maxP fA) := e_callB (call_max2 hc) maxP_exc (s_max _) hg mg (by decide +kernel) ha (he := he) (hpl := hpl)
theorem e_divmod {e' : Expr} (mg : X.mg "divmod" = none) (hg : Gl X "divmod") (ha : AJ X W .t [e, e'] fA) (he : starEach [e, e'] X.env = (false, eval e X.env) :: starEach [e'] X.env := by rfl) (hpl : (backTo pos (starEach [e'] X.env)).any (·.1) = false := by rfl) : EJ X W .s (.Call (.Name "divmod" p) [e, e'] [] pos) (eD divmodP fA) := e_callB call_divmodW divmodP_exc (s_divmod _) hg mg (by decide +kernel) ha (he := he) (hpl := hpl)
def tyN : PV → String
  | .non => "NoneType" | .bl _ => "bool" | .int _ => "int" | .str _ => "str" | .tup _ => "tuple" | .lst _ => "list" | .frz _ => "list" | .dct => "dict"
def isiP (n : String) (p : PV) : R PV := match kitB (tyN p) n with
  | some b => .ok (.bl b)
  | none => .stuck
theorem rt_ty {K : PySem.W.Frag} {H H2 : Hp} {O0 : Addr → Prop} {σ : St} {ρ : Rho} {x : V} {p : PV} (r : RepM K O0 σ ρ .t H H2 x p) : TyX K H2 x (.type (tyN p)) := by
  rcases r with r | ⟨a, vs, ps, rfl, rfl, e3, e4⟩
  · cases r with
    | non => exact .base .non
    | bl b => exact .base (.bl b)
    | int i => exact .base (.int i)
    | str i => exact .base (.str i)
    | lst h _ _ => exact .base (.lst h)
    | tup h _ =>
      rcases h with ⟨h, _⟩ | ⟨o, its, n, h1, h2, _⟩
      · exact .base (.tup h)
      · exact .kTuple h1 h2
    | frz h =>
      rcases h with ⟨⟨o, h⟩, _⟩ | h
      · exact .base (.frz h)
      · rcases h fun _ => none with (h | ⟨_, h⟩) | ⟨o, its, n, h1, h2, _⟩
        · cases h
        · cases h
        · exact .kList h1 h2
    | dct h _ => exact .base (.dK h)
  · exact .base (.lst e3)
theorem e_isi {n : String} {en : Expr} (mg : X.mg "isinstance" = none) (hg : Gl X "isinstance") (ha : EJ X W .t e f) (hn : PE X en (tC (.ty n))) (he : starEach [e, en] X.env = (false, eval e X.env) :: starEach [en] X.env := by rfl) (he2 : starEach [en] X.env = (false, eval en X.env) :: starEach [] X.env := by rfl) (hpl : (backTo pos (starEach [en] X.env)).any (·.1) = false := by rfl) :
    EJ X W .s (.Call (.Name "isinstance" p) [e, en] [] pos) (e1 (isiP n) f) := by
  refine pe_imp (pe_callB call_isi hg mg PyProof.Rows.boot_isinstance (pa_cons ha (pa_cons hn pa_nil he2) he) (by decide) (by decide) he hpl) fun σ H Q ⟨H0, O0, ρ, S, G⟩ => ⟨H0, O0, ρ, S, ?_⟩
  revert G
  unfold e1
  cases f ρ with
  | stuck => exact False.elim
  | exc c => exact fun G => G
  | ok q =>
    intro G x H1 s1 r1
    rw [R.bind_ok] at G
    unfold isiP at G
    split at G
    · rename_i b hb
      exact ⟨x, .ty n, _, _, b, rfl, .ty n, rt_ty r1, kit_ty hb, G _ _ s1 (.bl b)⟩
    · exact G.elim
def isiP2 (n m : String) (p : PV) : R PV := match kitB (tyN p) n, kitB (tyN p) m with
  | some b, some c => .ok (.bl (b || c))
  | _, _ => .stuck
theorem e_isi2 {n m : String} {en em : Expr} {pt : Pos} {k : Nat} (mg : X.mg "isinstance" = none) (hg : Gl X "isinstance") (ha : EJ X W .t e f) (hn : PE X en (tC (.ty n))) (hm : PE X em (tC (.ty m))) (he : starEach [e, .Tuple [en, em] k pt] X.env = (false, eval e X.env) :: starEach [.Tuple [en, em] k pt] X.env := by rfl)
    (he2 : starEach [.Tuple [en, em] k pt] X.env = (false, eval (.Tuple [en, em] k pt) X.env) :: starEach [] X.env := by rfl) (he3 : starEach [en, em] X.env = (false, eval en X.env) :: starEach [em] X.env := by rfl) (he4 : starEach [em] X.env = (false, eval em X.env) :: starEach [] X.env := by rfl) (hpl : (backTo pos (starEach [.Tuple [en, em] k pt] X.env)).any (·.1) = false := by rfl) :
    EJ X W .s (.Call (.Name "isinstance" p) [e, .Tuple [en, em] k pt] [] pos) (e1 (isiP2 n m) f) := by
  refine pe_imp (pe_callB call_isiT hg mg PyProof.Rows.boot_isinstance (pa_cons ha (pa_cons (pe_tup (pa_cons hn (pa_cons hm pa_nil he4) he3)) pa_nil he2) he) (by decide) (by decide) he hpl) fun σ H Q ⟨H0, O0, ρ, S, G⟩ => ⟨H0, O0, ρ, S, ?_⟩
  revert G
  unfold e1
  cases f ρ with
  | stuck => exact False.elim
  | exc c => exact fun G => G
  | ok q =>
    intro G x H1 s1 r1
    rw [R.bind_ok] at G
    unfold isiP2 at G
    split at G
    · rename_i b c hb hc
      refine ⟨by show 2 ≤ sizeLine; decide, fun t ht => ?_⟩
      refine ⟨x, t, [.ty n, .ty m], _, [.type n, .type m], b || c, rfl, upd_same, .cons (.ty n) (.cons (.ty m) .nil), rt_ty (r1.step (same_new ht)), kitAny_cons (kit_ty hb) (fun e => ?_) (fun e => by rw [e]; rfl), G _ _ (s1.trans (same_new ht)) (.bl _)⟩
      rw [e, Bool.false_or]
      exact kitAny_cons (kit_ty hc) (fun e => by rw [e]; exact kitAny_nil) fun e => e
    · exact G.elim
end
end PL
set_option Elab.async false
set_option linter.all false
set_option maxRecDepth 100000
set_option autoImplicit false
namespace PL
open PySem PySem.Spec L2
open PyProof.Rows hiding St
def Kept (O : Addr → Prop) (H : Hp) (O' : Addr → Prop) (H' : Hp) : Prop := ∀ a o, H a = some o → ¬ O a → H' a = some o ∧ ¬ O' a
theorem Kept.refl (O : Addr → Prop) (H : Hp) : Kept O H O H := fun _ _ h n => ⟨h, n⟩
theorem Kept.trans {O O1 O2 : Addr → Prop} {H H1 H2 : Hp} (a : Kept O H O1 H1) (b : Kept O1 H1 O2 H2) : Kept O H O2 H2 := fun c o h n => b c o (a c o h n).1 (a c o h n).2
theorem Kept.same {O : Addr → Prop} {H H' : Hp} (s : Same H H') : Kept O H O H' := fun a o h n => ⟨s a o h, n⟩
structure ItOk (K : PySem.W.Frag) (J : It) (items : List PV) (O1 : Addr → Prop) (H1 : Hp) : Prop where
  go : ∀ i H O, Kept O1 H1 O H → i < items.length → J.go i H
  stop : ∀ i H O, Kept O1 H1 O H → items.length ≤ i → J.stop i H
  yld : ∀ i H O x H' p, Kept O1 H1 O H → (∀ a, O a → H a ≠ none) → items[i]? = some p → J.yld i H x H' → Same H H' ∧ Rep K H' O x p
def GotI (K : PySem.W.Frag) (mg : Str → Option Value) (W : WX) (O0 : Addr → Prop) (σ : St) (ρ : Rho) (H : Hp) (Q : It → Hp → Prop) : R (List PV) → Prop
  | .ok items => ∀ J H', Same H H' → ItOk K J items (OO O0 σ ρ) H' → Q J H'
  | .exc c => ∀ C H', Same H H' → mg c = some (.ref C) → W (.ref C) none σ H'
  | .stuck => False
def tI (K : PySem.W.Frag) (mg : Str → Option Value) (W : WX) (f : Rho → R (List PV)) : TI := fun σ H Q =>
  ∃ H0 O0 ρ, StR K H0 O0 H σ ρ ∧ GotI K mg W O0 σ ρ H Q (f ρ)
abbrev IJ (X : Cx) (W : WX) (tg it : Expr) (f : Rho → R (List PV)) : Prop := PI X tg it (tI X.K X.mg W f)
section
variable {X : Cx} {W : WX} {e e' e'' tg : Expr} {pos p : Pos} {f : Rho → R PV} {fA : Rho → R (List PV)} {K : PySem.W.Frag}
theorem pi_imp {t t' : TI} (h : PI X tg e t) (q : ∀ σ H Q, t' σ H Q → t σ H Q) : PI X tg e t' := ⟨fun pins s σ H Q I hw => h.run pins s σ H Q I (q σ H Q hw)⟩
/-- the items of a list, a tuple -/
def asL : PV → R (List PV)
  | .lst l | .frz l => .ok l
  | _ => .stuck
def asS : PV → R (List PV)
  | .lst l | .frz l | .tup l => .ok l
  | _ => .stuck
def iRv (f : Rho → R PV) : Rho → R (List PV) := fun ρ => (f ρ).bind fun p => (asS p).bind fun l => .ok l.reverse
theorem kept_reps {H H1 : Hp} {O O1 : Addr → Prop} (k : Kept O1 H1 O H) {v : V} {p : PV} (r : Rep K H1 O1 v p) : Rep K H O v p := r.mono k
theorem lst_it {H1 : Hp} {O1 : Addr → Prop} {a : Addr} {l : List PV} (r : Rep K H1 O1 (.ref a) (.lst l)) : ItOk K (Itl K a) l O1 H1 ∧ ∃ xs, SqL K H1 a xs := by
  cases r with
  | @lst _ vs _ h n r =>
    refine ⟨⟨fun i H O k hi => ?_, fun i H O k hi => ⟨vs, .inl (.inl (k _ _ h n).1), by rw [r.length]; exact hi⟩, fun i H O x H' p k _ hp hy => ?_⟩, vs, .inl (.inl h)⟩
    · obtain ⟨v, hv, _⟩ := r.get (List.getElem?_eq_getElem hi)
      exact ⟨vs, v, .inl (.inl (k _ _ h n).1), hv⟩
    · obtain ⟨rfl, hx⟩ := hy
      obtain ⟨q, hq, rq⟩ := r.get' (hx vs (.inl (.inl (k _ _ h n).1)))
      rw [hp] at hq; cases hq
      exact ⟨Same.refl _, kept_reps k rq⟩
theorem frz_it {H1 : Hp} {O1 : Addr → Prop} {a : Addr} {l : List PV} (r : Rep K H1 O1 (.ref a) (.frz l)) : ItOk K (Itl K a) l O1 H1 ∧ ∃ xs, SqL K H1 a xs := by
  generalize hl : PV.frz l = q at r
  cases r with
  | @frz _ ns h =>
    cases hl
    have sq : ∀ H O, Kept O1 H1 O H → SqL K H a (ns.map V.int) := fun H O k => by
      rcases h with ⟨⟨o, h⟩, n⟩ | h
      · exact .inl (.inr ⟨o, (k _ _ h n).1⟩)
      · exact h _
    refine ⟨⟨fun i H O k hi => ?_, fun i H O k hi => ⟨_, sq H O k, by simpa using hi⟩, fun i H O x H' p k _ hp hy => ?_⟩, _, sq _ _ (Kept.refl _ _)⟩
    · rw [List.length_map] at hi
      exact ⟨_, .int ns[i], sq H O k, by rw [List.getElem?_map, List.getElem?_eq_getElem hi]; rfl⟩
    · obtain ⟨rfl, hx⟩ := hy
      have hx := hx _ (sq _ O k)
      rw [List.getElem?_map] at hp hx
      cases hn : ns[i]? with
      | none => rw [hn] at hp; cases hp
      | some n =>
        rw [hn] at hp hx
        cases hp; cases hx
        exact ⟨Same.refl _, .int n⟩
  | _ => cases hl
theorem tup_it {H1 : Hp} {O1 : Addr → Prop} {a : Addr} {l : List PV} (r : Rep K H1 O1 (.ref a) (.tup l)) : ItOk K (Itt K a) l O1 H1 ∧ ∃ xs, SqT K H1 a xs := by
  cases r with
  | @tup _ vs _ h r =>
    have sq : ∀ H O, Kept O1 H1 O H → SqT K H a vs := fun H O k => by
      rcases h with ⟨h, n⟩ | h
      · exact .inl (.inl (k _ _ h n).1)
      · exact .inr h
    refine ⟨⟨fun i H O k hi => ?_, fun i H O k hi => ⟨vs, sq H O k, by rw [r.length]; exact hi⟩, fun i H O x H' p k _ hp hy => ?_⟩, vs, sq _ _ (Kept.refl _ _)⟩
    · obtain ⟨v, hv, _⟩ := r.get (List.getElem?_eq_getElem hi)
      exact ⟨vs, v, sq H O k, hv⟩
    · obtain ⟨rfl, hx⟩ := hy
      obtain ⟨q, hq, rq⟩ := r.get' (hx vs (sq _ O k))
      rw [hp] at hq; cases hq
      exact ⟨Same.refl _, kept_reps k rq⟩
/-- a PI by either of two readings -/
theorem pi_or {w1 w2 : TI} (h1 : PI X tg e w1) (h2 : PI X tg e w2) : PI X tg e (fun σ H R => w1 σ H R ∨ w2 σ H R) := ⟨fun pins s σ H R I hw => by
  rcases hw with hw | hw
  · exact h1.run pins s σ H R I hw
  · exact h2.run pins s σ H R I hw⟩
def iS (f : Rho → R PV) : Rho → R (List PV) := fun ρ => (f ρ).bind asS
theorem ref_of {H1 : Hp} {O1 : Addr → Prop} {v : V} {p : PV} (r : Rep K H1 O1 v p) (h : (∃ l, p = .lst l) ∨ (∃ l, p = .frz l) ∨ ∃ l, p = .tup l) : ∃ a, v = .ref a := by
  rcases h with ⟨l, rfl⟩ | ⟨l, rfl⟩ | ⟨l, rfl⟩
  · cases r; exact ⟨_, rfl⟩
  · generalize hl : PV.frz l = q at r
    cases r with
    | frz h => exact ⟨_, rfl⟩
    | _ => cases hl
  · cases r; exact ⟨_, rfl⟩
/-- a list or a tuple, walked -/
theorem i_seq (he : EJ X W .s e f) : IJ X W tg e (iS f) := by
  refine pi_imp (pi_or (L2.pi_list he) (L2.pi_tup he)) fun σ H Q ⟨H0, O0, ρ, S, G⟩ => ?_
  revert G
  unfold iS
  cases hf : f ρ with
  | stuck => exact False.elim
  | exc c => exact fun G => .inl ⟨H0, O0, ρ, S, by rw [hf]; exact G⟩
  | ok p =>
    cases p with
    | lst l =>
      intro G
      refine .inl ⟨H0, O0, ρ, S, ?_⟩
      rw [hf]
      intro v H1 s1 r1
      obtain ⟨a, rfl⟩ := ref_of r1 (.inl ⟨l, rfl⟩)
      obtain ⟨h1, h2⟩ := lst_it r1
      exact ⟨a, rfl, h2, G _ _ s1 h1⟩
    | frz l =>
      intro G
      refine .inl ⟨H0, O0, ρ, S, ?_⟩
      rw [hf]
      intro v H1 s1 r1
      obtain ⟨a, rfl⟩ := ref_of r1 (.inr (.inl ⟨l, rfl⟩))
      obtain ⟨h1, h2⟩ := frz_it r1
      exact ⟨a, rfl, h2, G _ _ s1 h1⟩
    | tup l =>
      intro G
      refine .inr ⟨H0, O0, ρ, S, ?_⟩
      rw [hf]
      intro v H1 s1 r1
      obtain ⟨a, rfl⟩ := ref_of r1 (.inr (.inr ⟨l, rfl⟩))
      obtain ⟨h1, h2⟩ := tup_it r1
      exact ⟨a, rfl, h2, G _ _ s1 h1⟩
    | _ => exact False.elim
theorem rev_ix {α : Type} {l : List α} {i : Nat} (h : i < l.length) : l.reverse[i]? = l[l.length - 1 - i]? := List.getElem?_reverse h
theorem i_rev (mg : X.mg "reversed" = none) (hg : Gl X "reversed") (he : EJ X W .s e f) (hs : starEach [e] X.env = (false, eval e X.env) :: starEach [] X.env := by rfl) : IJ X W tg (.Call (.Name "reversed" p) [e] [] pos) (iRv f) := by
  refine pi_imp (RT.pi_revA hg mg he hs) fun σ H Q ⟨H0, O0, ρ, S, G⟩ => ⟨H0, O0, ρ, S, ?_⟩
  revert G
  unfold iRv
  cases hf : f ρ with
  | stuck => exact False.elim
  | exc c => exact fun G => G
  | ok p =>
    cases p with
    | lst l =>
      intro G v H1 s1 r1
      cases (show Rep X.K H1 (OO O0 σ ρ) v (.lst l) from r1) with
      | @lst a vs _ h n r =>
        refine ⟨a, vs, rfl, .inl ⟨.inl (.inl h), G _ _ s1 ⟨fun i H O k hi => ?_, fun i H O k hi => ?_, fun i H O x H' p k _ hp hy => ?_⟩⟩⟩
        · rw [List.length_reverse] at hi
          refine ⟨by rw [r.length]; exact hi, vs, vs[vs.length - 1 - i]'(by rw [r.length]; omega), .inl (.inl (k _ _ h n).1), List.getElem?_eq_getElem _⟩
        · rw [List.length_reverse] at hi
          show vs.length ≤ i
          rw [r.length]; exact hi
        · obtain ⟨rfl, hx⟩ := hy
          have hi : i < l.length := by
            have := (List.getElem?_eq_some_iff.mp hp).1
            simpa using this
          rw [rev_ix hi] at hp
          obtain ⟨q, hq, rq⟩ := r.get' (hx vs (.inl (.inl (k _ _ h n).1)))
          rw [r.length] at hq
          rw [hp] at hq; cases hq
          exact ⟨Same.refl _, kept_reps k rq⟩
    | tup l =>
      intro G v H1 s1 r1
      cases (show Rep X.K H1 (OO O0 σ ρ) v (.tup l) from r1) with
      | @tup a vs _ h r =>
        have sq : ∀ H O, Kept (OO O0 σ ρ) H1 O H → SqT X.K H a vs := fun H O k => by
          rcases h with ⟨h, n⟩ | h
          · exact .inl (.inl (k _ _ h n).1)
          · exact .inr h
        refine ⟨a, vs, rfl, .inr ⟨sq _ _ (Kept.refl _ _), G _ _ s1 ⟨fun i H O k hi => ?_, fun i H O k hi => ?_, fun i H O x H' p k _ hp hy => ?_⟩⟩⟩
        · rw [List.length_reverse] at hi
          refine ⟨by rw [r.length]; exact hi, vs, vs[vs.length - 1 - i]'(by rw [r.length]; omega), sq H O k, List.getElem?_eq_getElem _⟩
        · rw [List.length_reverse] at hi
          show vs.length ≤ i
          rw [r.length]; exact hi
        · obtain ⟨rfl, hx⟩ := hy
          have hi : i < l.length := by
            have := (List.getElem?_eq_some_iff.mp hp).1
            simpa using this
          rw [rev_ix hi] at hp
          obtain ⟨q, hq, rq⟩ := r.get' (hx vs (sq _ O k))
          rw [r.length] at hq
          rw [hp] at hq; cases hq
          exact ⟨Same.refl _, kept_reps k rq⟩
    | frz l =>
      intro G v H1 s1 r1
      obtain ⟨a, rfl⟩ := ref_of r1 (.inr (.inl ⟨l, rfl⟩))
      generalize hl : PV.frz l = q at r1
      cases (show Rep X.K H1 (OO O0 σ ρ) (.ref a) q from r1) with
      | @frz a ns h =>
        cases hl
        have sq : ∀ H O, Kept (OO O0 σ ρ) H1 O H → SqL X.K H a (ns.map V.int) := fun H O k => by
          rcases h with ⟨⟨o, h⟩, n⟩ | h
          · exact .inl (.inr ⟨o, (k _ _ h n).1⟩)
          · exact h _
        refine ⟨a, _, rfl, .inl ⟨sq _ _ (Kept.refl _ _), G _ _ s1 ⟨fun i H O k hi => ?_, fun i H O k hi => ?_, fun i H O x H' p k _ hp hy => ?_⟩⟩⟩
        · rw [List.length_reverse, List.length_map] at hi
          refine ⟨by rw [List.length_map]; exact hi, _, (ns.map V.int)[(ns.map V.int).length - 1 - i]'(by rw [List.length_map]; omega), sq H O k, List.getElem?_eq_getElem _⟩
        · rw [List.length_reverse, List.length_map] at hi
          show (ns.map V.int).length ≤ i
          rw [List.length_map]; exact hi
        · obtain ⟨rfl, hx⟩ := hy
          have hi : i < (ns.map PV.int).length := by
            have := (List.getElem?_eq_some_iff.mp hp).1
            simpa using this
          rw [rev_ix hi] at hp
          have hx := hx _ (sq _ O k)
          rw [List.length_map] at hx hp
          rw [List.getElem?_map] at hp hx
          cases hn : ns[ns.length - 1 - i]? with
          | none => rw [hn] at hp; cases hp
          | some n =>
            rw [hn] at hp hx
            cases hp; cases hx
            exact ⟨Same.refl _, .int n⟩
      | _ => cases hl
    | _ => exact False.elim
/-- lo, lo + 1, .. -/
def rngL (lo : Int) (n : Nat) : List PV := (List.range n).map fun (i : Nat) => PV.int (lo + i)
theorem rngL_len (lo : Int) (n : Nat) : (rngL lo n).length = n := by unfold rngL; rw [List.length_map, List.length_range]
theorem rng_it (lo : Int) (n : Nat) (O1 : Addr → Prop) (H1 : Hp) : ItOk K (Itr lo n) (rngL lo n) O1 H1 := by
  refine ⟨fun i H O k hi => by rw [rngL_len] at hi; exact hi, fun i H O k hi => by rw [rngL_len] at hi; exact hi, fun i H O x H' p k _ hp hy => ?_⟩
  obtain ⟨rfl, rfl⟩ := hy
  unfold rngL at hp
  rw [List.getElem?_map] at hp
  cases hn : (List.range n)[i]? with
  | none => rw [hn] at hp; cases hp
  | some j =>
    rw [hn] at hp
    obtain ⟨h1, h2⟩ := List.getElem?_eq_some_iff.mp hn
    rw [List.getElem_range] at h2
    cases hp
    rw [h2]
    exact ⟨Same.refl _, .int _⟩
def inR (i : Int) : Bool := decide (-(2 ^ 62) ≤ i) && decide (i < 2 ^ 62)
theorem inR_iff {i : Int} : inR i = true ↔ -(2 ^ 62) ≤ i ∧ i < 2 ^ 62 := by unfold inR; rw [Bool.and_eq_true, decide_eq_true_eq, decide_eq_true_eq]
def rng1 : List PV → R (List PV)
  | [.int j] => if inR j = true then .ok (rngL 0 j.toNat) else .stuck
  | _ => .stuck
def rng2 : List PV → R (List PV)
  | [.int i, .int j] => .ok (rngL i (j - i).toNat)
  | _ => .stuck
def iR (g : List PV → R (List PV)) (f : Rho → R (List PV)) : Rho → R (List PV) := fun ρ => (f ρ).bind g
theorem i_rng1 (mg : X.mg "range" = none) (hg : Gl X "range") (ha : AJ X W .t [e] fA) (hs : starEach [e] X.env = [(false, eval e X.env)] := by rfl) : IJ X W tg (.Call (.Name "range" p) [e] [] pos) (iR rng1 fA) := by
  refine pi_imp (pi_range1 hg mg ha hs) fun σ H Q ⟨H0, O0, ρ, S, G⟩ => ⟨H0, O0, ρ, S, ?_⟩
  revert G
  unfold iR
  cases fA ρ with
  | stuck => exact False.elim
  | exc c => exact fun G => G
  | ok ps =>
    intro G vs H1 s1 r1
    rw [R.bind_ok] at G
    unfold rng1 at G
    split at G
    · split at G
      · rename_i hz
        obtain ⟨v, rfl, r2⟩ := pr1 r1
        rw [rt_int r2]
        obtain ⟨z1, z2⟩ := inR_iff.mp hz
        exact ⟨_, rfl, z1, z2, G _ _ s1 (rng_it _ _ _ _)⟩
      · exact G.elim
    · exact G.elim
/-- a range of any numbers, walked by the iterator for great ones -/
theorem turn_long {P : Program} {w : World} {K : PySem.W.Frag} {tg : Expr} (z : Addr) (lo : Int) (n : Nat) : Turn P w K tg (Itr lo n) [z] z (fun j g => IsLongIter g z (lo + (j : Nat) * 1) ((n : Int) - (j : Nat)) 1) := by
  have here : z ∈ [z] := List.mem_singleton.mpr rfl
  refine ⟨here, fun j g hg b hb => ?_, fun j g g' hg k => k z here _ hg, ?_, ?_, fun _ _ _ _ _ hg q => wpAny_pyIter_longiter hg q⟩
  · cases List.mem_singleton.mp hb
    exact ⟨_, hg, fun v e => nomatch e⟩
  · rintro X rfl rfl rfl calm j pins u σ H E inv fresh hg lt
    have fr := fresh z here
    refine (Walks.longrange (prog := X.prog) (w := X.w) (inv.ok.hd calm) z lo 1 n).item j u _ _ lt hg fun v g tk hv hg' same => ?_
    obtain ⟨t, rfl⟩ := hv
    have inv' : Inv X pins σ H { u with heap := g, toks := tk } := inv.turned (fun b o hb e => same b o (fun hm => hb (List.mem_singleton.mp hm)) e) fr.1 fr.2.1 fr.2.2.2.1 fr.2.2.2.2.1 fr.2.2.2.2.2
    exact ⟨_, rfl, go_of (s := { u with heap := g, toks := tk }) (n := "longrange_iterator") hg' rfl rfl (by decide) ⟨.int (lo + j), H, inv', ⟨t, by rw [Int.mul_one]⟩, ⟨rfl, rfl⟩, hg', fun b hb => (fresh b hb).1⟩⟩
  · rintro X rfl rfl rfl calm j pins u σ H E inv fresh hg le
    have fr := fresh z here
    have le : n ≤ j := le
    exact wpAny_pyNext_long_end (inv.ok.hd calm) hg (by omega) fun g eb => ⟨rfl, inv.turned (t' := u.toks) (fun b o hb e => eb b o hb e) fr.1 fr.2.1 fr.2.2.2.1 fr.2.2.2.2.1 fr.2.2.2.2.2⟩
theorem range_any {pins : List (Addr × Obj)} {σ : St} {H : Hp} {u : Shared} {R : It → Hp → Prop} {E : Value → Shared → Prop} {i j : Int} {t1 t2 t3 : Tok} {tk : Nat} (inv : Inv X pins σ H u) (q : R (Itr i (j - i).toNat) H) :
    wpAny (model X.prog X.w) X.A (pyIter (.ref u.heap.objs.size)) (PIE X pins σ tg R) E { u with heap := u.heap.push { cls := .type "range", data := .fields #[.int i t1, .int j t2, .int 1 t3] }, toks := tk } := by
  have inv' : Inv X pins σ H { u with heap := u.heap.push { cls := .type "range", data := .fields #[.int i t1, .int j t2, .int 1 t3] }, toks := tk } := inv.kept fun b o e => Heap.get?_push_of_some _ e
  have many : (((j - i).toNat : Nat) : Int) - ((0 : Nat) : Int) = Builtin.Range.rangeSize i j 1 := by rw [rangeSize_one]; split <;> omega
  have first : i + ((0 : Nat) : Int) * 1 = i := by simp
  cases sm : Builtin.Range.small i j 1 with
  | true =>
    refine wpAny_pyIter_range (IsRange.new ..) sm (pi_one inv' _ (turn_range _ i (j - i).toNat) ?_ q)
    show IsRangeIter _ _ (i + ((0 : Nat) : Int) * 1) ((((j - i).toNat : Nat) : Int) - ((0 : Nat) : Int)) 1
    rw [first, many]; exact Heap.get?_push_size _ rfl
  | false =>
    refine wpAny_pyIter_longrange (IsRange.new ..) sm (pi_one inv' _ (turn_long _ i (j - i).toNat) ?_ q)
    show IsLongIter _ _ (i + ((0 : Nat) : Int) * 1) ((((j - i).toNat : Nat) : Int) - ((0 : Nat) : Int)) 1
    rw [first, many]; exact Heap.get?_push_size _ rfl
def iRngA (ta : TA) : TI := fun σ H R => ta σ H fun vs H' => ∃ i j : Int, vs = [.int i, .int j] ∧ R (Itr i (j - i).toNat) H'
theorem pi_rangeA {a b : Expr} {ta : TA} {p pos : Pos} (hg : Gl X "range") (hm : X.mg "range" = none) (ha : PA X [a, b] ta) (h1 : starEach [a, b] X.env = [(false, eval a X.env), (false, eval b X.env)] := by rfl) (h2 : starEach [b] X.env = [(false, eval b X.env)] := by rfl) :
    PI X tg (.Call (.Name "range" p) [a, b] [] pos) (iRngA ta) := by
  refine ⟨fun pins u σ H R inv hw => Call_ (ld_blt inv hg hm boot_range (PyProof.Rows.callWith_type1 (thn (ha.run pos pins u σ H _ inv hw) ?_) (by rw [h1, h2]) (by rw [h2]; rfl)))⟩
  rintro us u1 ⟨vs, H1, inv1, rel, i, j, rfl, q⟩
  cases rel with
  | cons ri rel => cases rel with
    | cons rj rel =>
      cases rel
      obtain ⟨t1, rfl⟩ := ri
      obtain ⟨t2, rfl⟩ := rj
      exact call_range_2 (range_any inv1 q)
theorem i_rng2 (mg : X.mg "range" = none) (hg : Gl X "range") (ha : AJ X W .t [e, e'] fA) (hs : starEach [e, e'] X.env = [(false, eval e X.env), (false, eval e' X.env)] := by rfl) (hs2 : starEach [e'] X.env = [(false, eval e' X.env)] := by rfl) : IJ X W tg (.Call (.Name "range" p) [e, e'] [] pos) (iR rng2 fA) := by
  refine pi_imp (pi_rangeA hg mg ha hs hs2) fun σ H Q ⟨H0, O0, ρ, S, G⟩ => ⟨H0, O0, ρ, S, ?_⟩
  revert G
  unfold iR
  cases fA ρ with
  | stuck => exact False.elim
  | exc c => exact fun G => G
  | ok ps =>
    intro G vs H1 s1 r1
    rw [R.bind_ok] at G
    unfold rng2 at G
    split at G
    · obtain ⟨v, w, rfl, r2, r3⟩ := pr2 r1
      rw [rt_int r2, rt_int r3]
      exact ⟨_, _, rfl, G _ _ s1 (rng_it _ _ _ _)⟩
    · exact G.elim
end
def GotG (K : PySem.W.Frag) (H0 : Hp) (O0 : Addr → Prop) (H : Hp) (ts : List Nat) (σ : St) (ρ : Rho) (Q : St → Hp → Prop) : Option Rho → Prop
  | some ρ' => ∀ σ', StR K H0 O0 H σ' ρ' → (∀ a, OO O0 σ' ρ' a → OO O0 σ ρ a) → σ'.length = σ.length → (∀ (i : Nat), i ∉ ts → σ'[i]? = σ[i]? ∧ ρ'[i]? = ρ[i]?) → Q σ' H
  | none => False
def tG (K : PySem.W.Frag) (ts : List Nat) (h : PV → Rho → Option Rho) : TG := fun v σ H Q => ∃ H0 O0 ρ p, StR K H0 O0 H σ ρ ∧ Rep K H (OO O0 σ ρ) v p ∧ GotG K H0 O0 H ts σ ρ Q (h p ρ)
abbrev GJ (X : Cx) (tg : Expr) (ts : List Nat) (h : PV → Rho → Option Rho) : Prop := PG X tg (tG X.K ts h)
theorem pg_imp {X : Cx} {tg : Expr} {t t' : TG} (h : PG X tg t) (q : ∀ v σ H Q, t' v σ H Q → t v σ H Q) : PG X tg t' := ⟨fun pins s σ H v u Q I r hw => h.run pins s σ H v u Q I r (q v σ H Q hw)⟩
theorem pgs_imp {X : Cx} {tg : List Expr} {t t' : TGs} (h : PGs X tg t) (q : ∀ v σ H Q, t' v σ H Q → t v σ H Q) : PGs X tg t' := ⟨fun pins s σ H v u Q I r hw => h.run pins s σ H v u Q I r (q v σ H Q hw)⟩
def gN (i : Nat) : PV → Rho → Option Rho := fun p ρ => some (ρ.set i (.val p))
theorem g_name {X : Cx} {tg : Expr} {i : Nat} (h : PG X tg (gName i)) : GJ X tg [i] (gN i) := by
  refine pg_imp h fun v σ H Q ⟨H0, O0, ρ, p, S, r, G⟩ => ?_
  exact G _ (S.set (s := .val p) (fun _ z => nomatch z) (fun q z => by cases z; exact ⟨v, rfl, r⟩)) (fun a z => OO.set_val (s := .val p) (fun _ z => nomatch z) z) (List.length_set ..) fun j hj => have n : i ≠ j := fun e => hj (by rw [e]; exact List.mem_cons_self); ⟨List.getElem?_set_ne n, List.getElem?_set_ne n⟩
/-- several targets -/
def tGs (K : PySem.W.Frag) (ts : List Nat) (h : List PV → Rho → Option Rho) : TGs := fun vs σ H Q => ∃ H0 O0 ρ ps, StR K H0 O0 H σ ρ ∧ Reps K H (OO O0 σ ρ) vs ps ∧ GotG K H0 O0 H ts σ ρ Q (h ps ρ)
abbrev GJs (X : Cx) (tg : List Expr) (ts : List Nat) (h : List PV → Rho → Option Rho) : Prop := PGs X tg (tGs X.K ts h)
def gsNil : List PV → Rho → Option Rho
  | [], ρ => some ρ
  | _, _ => none
def gsCons (g : PV → Rho → Option Rho) (h : List PV → Rho → Option Rho) : List PV → Rho → Option Rho
  | p :: ps, ρ => (g p ρ).bind (h ps)
  | [], _ => none
section
variable {X : Cx} {e : Expr} {es : List Expr} {g : PV → Rho → Option Rho} {h : List PV → Rho → Option Rho} {pos : Pos} {ts us : List Nat}
theorem gs_nil : GJs X [] [] gsNil := by
  refine pgs_imp pgs_nil fun vs σ H Q ⟨H0, O0, ρ, ps, S, r, G⟩ => ?_
  cases ps with
  | nil => cases r; exact ⟨rfl, G σ S (fun _ z => z) rfl fun _ _ => ⟨rfl, rfl⟩⟩
  | cons p ps => exact G.elim
theorem gs_cons (h1 : GJ X e ts g) (h2 : GJs X es us h) (hs : (assignEach (e :: es) X.env).map (·.2) = assign e X.env :: (assignEach es X.env).map (·.2) := by rfl) : GJs X (e :: es) (ts ++ us) (gsCons g h) := by
  refine pgs_imp (pgs_cons h1 h2 hs) fun vs σ H Q ⟨H0, O0, ρ, ps, S, r, G⟩ => ?_
  cases r with
  | nil => exact G.elim
  | @cons v vs p ps r1 r2 =>
    refine ⟨v, vs, rfl, H0, O0, ρ, p, S, r1, ?_⟩
    have G' : GotG X.K H0 O0 H (ts ++ us) σ ρ Q ((g p ρ).bind (h ps)) := G
    revert G'
    cases g p ρ with
    | none => exact False.elim
    | some ρ1 =>
      intro G' σ1 S1 l1 e1 k1
      exact ⟨H0, O0, ρ1, ps, S1, r2.less l1, by
        revert G'
        rw [Option.bind_some]
        cases h ps ρ1 with
        | none => exact fun G => G
        | some ρ2 => exact fun G' σ2 S2 l2 e2 k2 => G' σ2 S2 (fun a z => l1 a (l2 a z)) (e2.trans e1) fun i hi => have a := k2 i fun z => hi (List.mem_append_right _ z); have b := k1 i fun z => hi (List.mem_append_left _ z); ⟨a.1.trans b.1, a.2.trans b.2⟩⟩
theorem draw_l {prog : Program} {w : World} {A : Around} {E : Value → Shared → Prop} {it l : Addr} {xs : Array Value} (ne : l ≠ it) : ∀ (k j : Nat) (u : Shared) (R : List Value → Shared → Prop), u.heap.IsListIter it l j → u.heap.IsList l xs → j + k ≤ xs.size →
    (∀ g, g.IsListIter it l (j + k) → Heap.SameBut it u.heap g → R ((xs.toList.drop j).take k) { u with heap := g }) → wpAny (model prog w) A (draw (.ref it) k) R E u
  | 0, j, u, R, _, _, _, q => wpAny_pure (by simpa using q u.heap (by simpa) (Heap.SameBut.refl ..))
  | k + 1, j, u, R, hi, hl, hs, q => by
    have lt : j < xs.size := by omega
    show wpAny (model prog w) A (pyNext (.ref it) >>= _) R E u
    refine wpAny_bind (wpAny_pyNext_list_item hi hl (x := xs[j]) (by simp [lt]) fun g1 i1 b1 => ?_)
    refine wpAny_bind (wpAny_holding (draw_l ne k (j + 1) _ _ i1 (hl.extBut b1.extBut ne) (by omega) fun g2 i2 b2 => wpAny_pure ?_))
    have z := q g2 (by rw [show j + (k + 1) = j + 1 + k by omega]; exact i2) (b1.trans b2)
    rw [show xs.toList.drop j = xs[j] :: xs.toList.drop (j + 1) by simp [List.drop_eq_getElem_cons, lt], List.take_succ_cons] at z
    exact z
theorem unp_l {prog : Program} {w : World} {A : Around} {E : Value → Shared → Prop} {u : Shared} {l : Addr} {xs : Array Value} {R : List Value → Shared → Prop} (hh : A.handled = none) (hl : u.heap.IsList l xs)
    (q : ∀ g, Heap.ExtBut u.heap.objs.size u.heap g → R xs.toList { u with heap := g }) : wpAny (model prog w) A (unpackItems (.ref l) xs.size none) R E u := by
  have ne : l ≠ u.heap.objs.size := by obtain ⟨o, ho, _⟩ := hl; exact Nat.ne_of_lt (Heap.lt_size ho)
  unfold unpackItems
  refine wpAny_bind ?_
  unfold notIterableAtAll
  refine wpAny_bind (wpAny_specialOf hl.typeIs slot_list_iter.lookup (wpAny_pure ?_))
  simp only [Bool.false_eq_true, if_false]
  refine wpAny_bind (wpAny_holding (wpAny_pyIter_list hl ?_))
  have h1 := hl.push { cls := .type "list_iterator", data := .fields #[.ref l, .int 0 0] }
  refine wpAny_bind (wpAny_holding (draw_l ne xs.size 0 _ _ ⟨_, Heap.get?_push_size _ rfl, rfl, rfl⟩ h1 (by omega) fun g1 i1 b1 => ?_))
  rw [show List.take xs.size (List.drop 0 xs.toList) = xs.toList by rw [List.drop_zero]; exact List.take_of_length_le (by simp)]
  rw [if_neg (by simp)]
  refine wpAny_bind (wpAny_holding (wpAny_pyNext_list_end hh i1 (h1.extBut b1.extBut ne) (by simp) fun g2 e2 => ?_))
  simp only [Option.isSome_none, Bool.false_eq_true, if_false]
  exact wpAny_pure (q g2 fun b o hb e => e2 b o hb (b1.extBut b o hb (Heap.get?_push_of_some _ e)))
def gSq (K : PySem.W.Frag) (n : Nat) (t : TGs) : TG := fun v σ H Q => ∃ a xs, v = .ref a ∧ (SqT K H a xs ∨ SqL K H a xs) ∧ xs.length = n ∧ t xs σ H Q
theorem pg_sq {X : Cx} {es : List Expr} {k n : Nat} {pos : Pos} {t : TGs} (hc : X.calm = true) (h : PGs X es t) (hn : (assignEach es X.env).length = n := by rfl) (hst : (assignEach es X.env).findIdx? (·.1) = none := by rfl) : PG X (.Tuple es k pos) (gSq X.K n t) := by
  refine ⟨fun pins s σ H v u Q I r g => ?_⟩
  obtain ⟨a, xs, e, hq | hq, hl, hw⟩ := g
  · exact (pg_tup hc h hn hst).run pins s σ H v u Q I r ⟨a, xs, e, hq, hl, hw⟩
  · subst e
    cases r
    obtain ⟨its, rv, pl, hz⟩ := I.list hq
    rw [assign_Tuple]
    refine wpAny_bind (wpAny_standAt ?_)
    unfold unpack
    have hsz : (assignEach es X.env).length = its.toArray.size := by simp [hn, ← hl, rv.length]
    rw [hsz, hst]
    refine wpAny_bind (wpAny_holding (unp_l (I.ok.hd hc) pl.isList fun g eb => ?_))
    have J : Inv X pins σ H { s with heap := g } := I.kept (t' := s.toks) fun b o e => eb b o (Nat.ne_of_lt (Heap.lt_size e)) e
    exact h.run pins _ σ H xs _ Q J (by simpa using rv) hw
def gT (h : List PV → Rho → Option Rho) : PV → Rho → Option Rho
  | .tup ps, ρ => h ps ρ
  | .lst ps, ρ => h ps ρ
  | _, _ => none
theorem g_tup {k n : Nat} (hc : X.calm = true) (h1 : GJs X es ts h) (hl : ∀ ps ρ ρ', h ps ρ = some ρ' → ps.length = n) (hn : (assignEach es X.env).length = n := by rfl) (hst : (assignEach es X.env).findIdx? (·.1) = none := by rfl) : GJ X (.Tuple es k pos) ts (gT h) := by
  refine pg_imp (pg_sq hc h1 hn hst) fun v σ H Q ⟨H0, O0, ρ, p, S, r, G⟩ => ?_
  have len : ∀ (ps : List PV), GotG X.K H0 O0 H ts σ ρ Q (h ps ρ) → ps.length = n := fun ps G' => by
    revert G'
    cases hh : h ps ρ with
    | none => exact False.elim
    | some ρ' => exact fun _ => hl ps ρ ρ' hh
  cases p with
  | tup ps =>
    cases r with
    | @tup a vs _ ha r => exact ⟨a, vs, rfl, .inl (sqT_of ha), by rw [r.length]; exact len ps G, H0, O0, ρ, ps, S, r, G⟩
  | lst ps =>
    cases r with
    | @lst a vs _ ha hn r => exact ⟨a, vs, rfl, .inr (.inl (.inl ha)), by rw [r.length]; exact len ps G, H0, O0, ρ, ps, S, r, G⟩
  | _ => exact G.elim
theorem gs_len : ∀ {n : Nat} {g : PV → Rho → Option Rho} {h : List PV → Rho → Option Rho}, (∀ ps ρ ρ', h ps ρ = some ρ' → ps.length = n) → ∀ ps ρ ρ', gsCons g h ps ρ = some ρ' → ps.length = n + 1 := by
  intro n g h hl ps ρ ρ' e
  cases ps with
  | nil => cases e
  | cons p ps =>
    have e' : (g p ρ).bind (h ps) = some ρ' := e
    cases hg : g p ρ with
    | none => rw [hg] at e'; cases e'
    | some ρ1 =>
      rw [hg, Option.bind_some] at e'
      rw [List.length_cons, hl ps ρ1 ρ' e']
theorem gs_len0 : ∀ ps ρ ρ', gsNil ps ρ = some ρ' → ps.length = 0 := by
  intro ps ρ ρ' e
  cases ps with
  | nil => rfl
  | cons p ps => cases e
end
end PL
set_option Elab.async false
set_option linter.all false
set_option maxRecDepth 100000
set_option autoImplicit false
namespace PL
open PySem PySem.Spec L2
open PyProof.Rows hiding St
def wipeR (ρ : Rho) : List Nat → Rho
  | [] => ρ
  | v :: vs => (wipeR ρ vs).set v .un
def notOwn (ρ : Rho) (v : Nat) : Bool := match ρ[v]? with
  | some (.own _) => false
  | _ => true
theorem wipe_get (σ : St) : ∀ (vs : List Nat) (i : Nat), (wipe σ vs)[i]? = if i ∈ vs then (if i < σ.length then some none else none) else σ[i]?
  | [], i => by simp [wipe]
  | v :: vs, i => by
    unfold wipe
    by_cases e : v = i
    · subst e
      rw [if_pos List.mem_cons_self]
      by_cases h : v < σ.length
      · rw [if_pos h, List.getElem?_set_self (by rw [wipe_length]; exact h)]
      · rw [if_neg h, List.getElem?_eq_none (by rw [List.length_set, wipe_length]; omega)]
    · rw [List.getElem?_set_ne e, wipe_get σ vs i]
      have : i ∈ v :: vs ↔ i ∈ vs := by
        rw [List.mem_cons]
        exact ⟨fun z => z.elim (fun z => absurd z.symm e) id, .inr⟩
      simp only [this]
theorem wipe_back {σ σ2 : St} {vs : List Nat} (hl : σ2.length = (wipe σ vs).length) (h : ∀ (i : Nat), i ∉ vs → σ2[i]? = (wipe σ vs)[i]?) : wipe σ2 vs = wipe σ vs := by
  refine List.ext_getElem? fun i => ?_
  rw [wipe_get σ2 vs i]
  by_cases hi : i ∈ vs
  · rw [if_pos hi, hl, wipe_length, wipe_get σ vs i, if_pos hi]
  · rw [if_neg hi, h i hi]
theorem wipe_st {K : PySem.W.Frag} {H0 H : Hp} {O0 : Addr → Prop} {σ : St} {ρ : Rho} (S : StR K H0 O0 H σ ρ) : ∀ vs : List Nat, StR K H0 O0 H (wipe σ vs) (wipeR ρ vs) ∧ ∀ a, OO O0 (wipe σ vs) (wipeR ρ vs) a → OO O0 σ ρ a
  | [] => ⟨S, fun _ z => z⟩
  | v :: vs => by
    obtain ⟨S1, l1⟩ := wipe_st S vs
    exact ⟨S1.set (s := .un) (fun _ z => nomatch z) (fun _ z => nomatch z), fun a z => l1 a (OO.set_val (s := .un) (fun _ z => nomatch z) z)⟩
theorem wipeR_get (ρ : Rho) : ∀ (vs : List Nat) (i : Nat), i ∉ vs → (wipeR ρ vs)[i]? = ρ[i]?
  | [], i, _ => rfl
  | v :: vs, i, h => by
    rw [List.mem_cons, not_or] at h
    unfold wipeR
    rw [List.getElem?_set_ne (Ne.symm h.1), wipeR_get ρ vs i h.2]
theorem wipe_oo {O0 : Addr → Prop} {σ : St} {ρ : Rho} {vs : List Nat} (hn : vs.all (notOwn ρ) = true) {a : Addr} (h : OO O0 σ ρ a) : OO O0 (wipe σ vs) (wipeR ρ vs) a := by
  rcases h with h | ⟨i, ps, h1, h2⟩
  · exact .inl h
  · have hi : i ∉ vs := fun hi => by
      have := List.all_eq_true.mp hn i hi
      unfold notOwn at this
      rw [h1] at this
      cases this
    exact .inr ⟨i, ps, by rw [wipeR_get ρ vs i hi]; exact h1, by rw [wipe_get, if_neg hi]; exact h2⟩
/-- what the turns make of the items -/
def lcGo (tgt : PV → Rho → Option Rho) (test : Rho → R Bool) (elt : Rho → R PV) (ρ : Rho) : List PV → R (List PV)
  | [] => .ok []
  | p :: ps => match tgt p ρ with
    | none => .stuck
    | some ρ1 => match test ρ1 with
      | .ok true => (match elt ρ1 with
        | .ok q => (match lcGo tgt test elt ρ ps with
          | .ok qs => .ok (q :: qs)
          | _ => .stuck)
        | _ => .stuck)
      | .ok false => lcGo tgt test elt ρ ps
      | _ => .stuck
def eLc (vs : List Nat) (it : Rho → R (List PV)) (tgt : PV → Rho → Option Rho) (test : Rho → R Bool) (elt : Rho → R PV) : Rho → R PV := fun ρ =>
  if vs.all (notOwn ρ) = true then (it ρ).bind fun items => if items.length ≤ sizeLine then (match lcGo tgt test elt (wipeR ρ vs) items with
    | .ok qs => .ok (.lst qs)
    | _ => .stuck) else .stuck
  else .stuck
abbrev CJ (X : Cx) (W : WX) (ifs : List Expr) (f : Rho → R Bool) : Prop := PTs X ifs (tT X.K X.mg W f)
def cYes : Rho → R Bool := fun _ => .ok true
abbrev WF : WX := fun _ _ _ _ => False
section
variable {X : Cx} {W : WX} {e tg it : Expr} {pos : Pos} {f g h : Rho → R PV}
theorem c_nil : CJ X W [] cYes := by
  refine ⟨fun pins s σ H Q I ⟨H0, O0, ρ, S, G⟩ => pts_nil.run pins s σ H Q I (G H (Same.refl H))⟩
theorem c_one {c : Expr} {t : Rho → R Bool} (h : TJ X W c t) : CJ X W [c] t := pts_one h
theorem bump {K : PySem.W.Frag} {H0 H : Hp} {O0 : Addr → Prop} {σ : St} {ρ : Rho} {D : Addr} {o : HO} (S : StR K H0 O0 H σ ρ) (hD : O0 D) (h0 : H0 D = none) : StR K H0 O0 (upd H D o) σ ρ := by
  have k : ∀ a u, H a = some u → ¬ OO O0 σ ρ a → upd H D o a = some u ∧ ¬ OO O0 σ ρ a := fun a u h n => ⟨by rw [upd_ne (fun z => n (by rw [z]; exact .inl hD))]; exact h, n⟩
  refine ⟨S.len, fun b x h => by rw [upd_ne (fun z => by rw [z, h0] at h; cases h)]; exact S.same b x h, fun a h => ?_, fun i ps h => ?_, S.dis, fun i p h => ?_, S.exs⟩
  · by_cases e : a = D
    · rw [e, upd_same]; exact fun z => nomatch z
    · rw [upd_ne e]; exact S.all0 a h
  · obtain ⟨a, vs, e1, e2, e3, e4, e5⟩ := S.own i ps h
    exact ⟨a, vs, e1, by rw [upd_ne (fun z => e4 (by rw [z]; exact hD))]; exact e2, e3, e4, e5.mono k⟩
  · obtain ⟨v, e1, e2⟩ := S.val i p h
    exact ⟨v, e1, e2.mono k⟩
/-- another address is forbidden: one that is new -/
theorem forbid {K : PySem.W.Frag} {H0 H : Hp} {O0 : Addr → Prop} {σ : St} {ρ : Rho} {D : Addr} {o : HO} (S : StR K H0 O0 H σ ρ) (hD : H D = none) : StR K H0 (fun b => O0 b ∨ b = D) (upd H D o) σ ρ := by
  have oo : ∀ a, OO (fun b => O0 b ∨ b = D) σ ρ a → OO O0 σ ρ a ∨ a = D := fun a z => by
    rcases z with (z | z) | z
    · exact .inl (.inl z)
    · exact .inr z
    · exact .inl (.inr z)
  have k : ∀ a u, H a = some u → ¬ OO O0 σ ρ a → upd H D o a = some u ∧ ¬ OO (fun b => O0 b ∨ b = D) σ ρ a := fun a u h n => ⟨same_new hD a u h, fun z => (oo a z).elim n (ne_of_none h hD)⟩
  refine ⟨S.len, fun b x h => same_new hD b x (S.same b x h), fun a h => ?_, fun i ps h => ?_, S.dis, fun i p h => ?_, S.exs⟩
  · rcases h with h | h
    · cases q : H a with
      | none => exact absurd q (S.all0 a h)
      | some u => rw [same_new hD a u q]; exact fun z => nomatch z
    · rw [h, upd_same]; exact fun z => nomatch z
  · obtain ⟨a, vs, e1, e2, e3, e4, e5⟩ := S.own i ps h
    exact ⟨a, vs, e1, same_new hD _ _ e2, e3, fun z => z.elim e4 (ne_of_none e2 hD), e5.mono k⟩
  · obtain ⟨v, e1, e2⟩ := S.val i p h
    exact ⟨v, e1, e2.mono k⟩
theorem lc_run {wi : Rho → R (List PV)} {tgt : PV → Rho → Option Rho} {test : Rho → R Bool} {elt : Rho → R PV} {vs ts : List Nat} (hts : ∀ i ∈ ts, i ∈ vs) {K : PySem.W.Frag} {mg : Str → Option Value} :
    ∀ σ H Q, tE K mg W .f (eLc vs wi tgt test elt) σ H Q → tLc (tI K mg W wi) (tG K ts tgt) (tT K mg WF test) (tE K mg WF .s elt) vs σ H Q := by
  intro σ H Q ⟨H0, O0, ρ, S, G⟩
  refine ⟨H0, O0, ρ, S, ?_⟩
  revert G
  unfold eLc
  split
  · rename_i hn
    cases wi ρ with
    | stuck => exact False.elim
    | exc c => exact fun G => G
    | ok items =>
      rw [R.bind_ok]
      split
      · rename_i hz
        intro G J H1 s1 ok D hD
        cases hq : lcGo tgt test elt (wipeR ρ vs) items with
        | stuck => rw [hq] at G; exact G.elim
        | exc c => rw [hq] at G; exact absurd G (fun G => by exact (show False from G))
        | ok qs =>
          rw [hq] at G
          have S1 := S.step s1
          obtain ⟨S2, l2⟩ := wipe_st S1 vs
          have hH0 : H0 D = none := S1.same.free hD
          have S3 : StR K H0 (fun b => O0 b ∨ b = D) (upd H1 D (.lst [])) (wipe σ vs) (wipeR ρ vs) := forbid S2 hD
          have OD : OO (fun b => O0 b ∨ b = D) (wipe σ vs) (wipeR ρ vs) D := .inl (.inr rfl)
          have oo : ∀ a, OO (fun b => O0 b ∨ b = D) (wipe σ vs) (wipeR ρ vs) a → OO O0 σ ρ a ∨ a = D := fun a z => by
            rcases z with (z | z) | z
            · exact .inl (.inl z)
            · exact .inr z
            · exact .inl (l2 a (.inr z))
          refine ⟨fun i m Hc => m = items.length - i ∧ i ≤ items.length ∧ Same H1 Hc ∧ StR K H0 (fun b => O0 b ∨ b = D) Hc (wipe σ vs) (wipeR ρ vs) ∧
              ∃ ws ps rs, Hc D = some (.lst ws) ∧ Reps K Hc (OO (fun b => O0 b ∨ b = D) (wipe σ vs) (wipeR ρ vs)) ws ps ∧ ps.length ≤ i ∧ lcGo tgt test elt (wipeR ρ vs) (items.drop i) = .ok rs ∧ qs = ps ++ rs,
            ⟨items.length, by simp, Nat.zero_le _, same_new hD, S3, [], [], qs, upd_same, .nil, Nat.zero_le _, by rw [List.drop_zero]; exact hq, rfl⟩, ?_⟩
          rintro i m Hc ⟨rfl, hi, sc, Sc, ws, ps, rs, hDc, rc, hpl, hgo, hqs⟩
          have kept : Kept (OO O0 σ ρ) H1 (OO (fun b => O0 b ∨ b = D) (wipe σ vs) (wipeR ρ vs)) Hc := fun a o h n => ⟨sc a o h, fun z => (oo a z).elim n (ne_of_none h hD)⟩
          have alloc : ∀ a, OO (fun b => O0 b ∨ b = D) (wipe σ vs) (wipeR ρ vs) a → Hc a ≠ none := fun a z => Sc.there z
          by_cases hlt : i < items.length
          · refine .inr ⟨ok.go i Hc _ kept hlt, _, fun H' n => ⟨items.length - (i + 1), by omega, rfl, hlt, n⟩, fun x Hy hy => ?_⟩
            have hg : items[i]? = some items[i] := List.getElem?_eq_getElem hlt
            obtain ⟨sy, ry⟩ := ok.yld i Hc _ x Hy _ kept alloc hg hy
            have hdr : items.drop i = items[i] :: items.drop (i + 1) := List.drop_eq_getElem_cons hlt
            rw [hdr] at hgo
            refine ⟨H0, _, wipeR ρ vs, items[i], Sc.step sy, ry, ?_⟩
            unfold lcGo at hgo
            cases ht : tgt items[i] (wipeR ρ vs) with
            | none => rw [ht] at hgo; cases hgo
            | some ρ1 =>
              rw [ht] at hgo
              intro σ2 Sg lg eg kg
              refine ⟨wipe_back eg fun j hj => (kg j fun z => hj (hts j z)).1, H0, _, ρ1, Sg, ?_⟩
              have hgo : (match test ρ1 with
                | .ok true => (match elt ρ1 with
                  | .ok q => (match lcGo tgt test elt (wipeR ρ vs) (items.drop (i + 1)) with
                    | .ok qs => .ok (q :: qs)
                    | _ => .stuck)
                  | _ => .stuck)
                | .ok false => lcGo tgt test elt (wipeR ρ vs) (items.drop (i + 1))
                | _ => .stuck) = (.ok rs : R (List PV)) := hgo
              cases hte : test ρ1 with
              | stuck => rw [hte] at hgo; cases hgo
              | exc c => rw [hte] at hgo; cases hgo
              | ok b =>
                rw [hte] at hgo
                intro H3 s3
                cases b with
                | false =>
                  rw [if_neg Bool.false_ne_true]
                  have s13 := (sc.trans sy).trans s3
                  exact ⟨s13, Sc.step (sy.trans s3), ws, ps, rs, (sy.trans s3) _ _ hDc, rc.same (sy.trans s3), by omega, hgo, hqs⟩
                | true =>
                  rw [if_pos rfl]
                  refine ⟨H0, _, ρ1, Sg.step s3, ?_⟩
                  have hgo : (match elt ρ1 with
                    | .ok q => (match lcGo tgt test elt (wipeR ρ vs) (items.drop (i + 1)) with
                      | .ok qs => .ok (q :: qs)
                      | _ => .stuck)
                    | _ => .stuck) = (.ok rs : R (List PV)) := hgo
                  cases hel : elt ρ1 with
                  | stuck => rw [hel] at hgo; cases hgo
                  | exc c => rw [hel] at hgo; cases hgo
                  | ok q =>
                    rw [hel] at hgo
                    have hgo : (match lcGo tgt test elt (wipeR ρ vs) (items.drop (i + 1)) with
                      | .ok qs => .ok (q :: qs)
                      | _ => .stuck) = (.ok rs : R (List PV)) := hgo
                    cases hre : lcGo tgt test elt (wipeR ρ vs) (items.drop (i + 1)) with
                    | stuck => rw [hre] at hgo; cases hgo
                    | exc c => rw [hre] at hgo; cases hgo
                    | ok rs' =>
                      rw [hre] at hgo
                      cases hgo
                      intro y H4 s4 r4
                      have s34 := (sy.trans s3).trans s4
                      have r4 : Rep K H4 (OO (fun b => O0 b ∨ b = D) σ2 ρ1) y q := r4
                      refine ⟨ws, s34 _ _ hDc, by rw [rc.length]; omega, ?_⟩
                      have nD : ∀ {b : Addr} {o : HO} {O : Addr → Prop}, O D → H4 b = some o → ¬ O b → upd H4 D (.lst (ws ++ [y])) b = some o ∧ ¬ O b := fun {b o O} hO h n => ⟨by rw [upd_ne (fun z => n (by rw [z]; exact hO))]; exact h, n⟩
                      refine ⟨fun b o h => ?_, bump (Sc.step s34) (.inr rfl) hH0, ws ++ [y], ps ++ [q], rs', upd_same, ?_, by rw [List.length_append]; simp; omega, rfl, by rw [hqs, List.append_assoc]; rfl⟩
                      · rw [upd_ne (ne_of_none h hD)]; exact s34 _ _ (sc _ _ h)
                      · refine Reps.append ((rc.same s34).mono fun b o h n => nD OD h n) (.cons ?_ .nil)
                        refine r4.mono fun b o h n => ?_
                        have hb : b ≠ D := fun z => n (by rw [z]; exact .inl (.inr rfl))
                        refine ⟨by rw [upd_ne hb]; exact h, fun z => ?_⟩
                        rcases z with z | ⟨j, us, z1, z2⟩
                        · exact n (.inl z)
                        · have hj : j ∉ vs := fun hj => by
                            have z3 : (wipeR ρ vs)[j]? = some (.own us) := z1
                            have z4 : (wipe σ vs)[j]? = some (some (.ref b)) := z2
                            rw [wipe_get, if_pos hj] at z4
                            split at z4 <;> cases z4
                          have kj := kg j fun z => hj (hts j z)
                          exact n (.inr ⟨j, us, by rw [kj.2]; exact z1, by rw [kj.1]; exact z2⟩)
          · have e : i = items.length := by omega
            subst e
            rw [List.drop_length] at hgo
            cases hgo
            rw [List.append_nil] at hqs
            subst hqs
            refine .inl ⟨ok.stop _ Hc _ kept (Nat.le_refl _), G _ _ (s1.trans sc) ⟨D, ws, _, rfl, rfl, s1.free hD, hDc, rc.less fun a z => ?_⟩⟩
            rcases z with z | z
            · rcases wipe_oo hn z with z | z
              · exact .inl (.inl z)
              · exact .inr z
            · rw [z]; exact OD
      · exact False.elim
  · exact False.elim
variable {ifs : List Expr} {scope : Scope} {own : List (Str × Nat)} {wi : Rho → R (List PV)} {tgt : PV → Rho → Option Rho} {test : Rho → R Bool} {elt : Rho → R PV} {ts : List Nat}
theorem e_lc (hc : X.calm = true) (hN : X.N.Nodup) (hi : IJ X W tg it wi) (ok : BlkOk X.N X.env.scope scope own) (hts : ∀ i ∈ ts, i ∈ own.map (·.2))
    (hg : ∀ (s : Shared) (H : Hp) (C : Addr) (cl : List (Str × Addr)) (fp : List Addr), GJ (X.blk s H scope (compEnvC scope cl C X.env) fp) tg ts tgt)
    (ht : ∀ (s : Shared) (H : Hp) (C : Addr) (cl : List (Str × Addr)) (fp : List Addr), CJ (X.blk s H scope (compEnvC scope cl C X.env) fp) WF ifs test)
    (he : ∀ (s : Shared) (H : Hp) (C : Addr) (cl : List (Str × Addr)) (fp : List Addr), EJ (X.blk s H scope (compEnvC scope cl C X.env) fp) WF .s e elt)
    (hs : ∀ x, foldedSetIterable it X.env x = pure x := by intro _; rfl) : EJ X W .f (.ListComp e [⟨tg, it, ifs, 0⟩] scope pos) (eLc (own.map (·.2)) wi tgt test elt) :=
  pe_imp (pe_lc hc hN hi ok hg ht he hs) (lc_run hts)
end
inductive Out where
  | next (ρ : Rho) | ret (p : PV) | brk (ρ : Rho) | cont (ρ : Rho) | exc (c : Str) (ρ : Rho) | stuck
def GotS (K : PySem.W.Frag) (mg : Str → Option Value) (W : WX) (nw : Bool) (H0 : Hp) (O0 : Addr → Prop) (σ : St) (ρ : Rho) (H : Hp) (D : Ends) : Out → Prop
  | .next ρ' => ∀ σ' H', StR K H0 O0 H' σ' ρ' → Kept (OO O0 σ ρ) H (OO O0 σ' ρ') H' → D.nx σ' H'
  | .brk ρ' => ∀ σ' H', StR K H0 O0 H' σ' ρ' → Kept (OO O0 σ ρ) H (OO O0 σ' ρ') H' → D.bk σ' H'
  | .cont ρ' => ∀ σ' H', StR K H0 O0 H' σ' ρ' → Kept (OO O0 σ ρ) H (OO O0 σ' ρ') H' → D.ct σ' H'
  | .ret p => ∀ v H', Same H0 H' → RepR K O0 nw H0 H' v p → D.rt v H'
  | .exc c ρ' => ∀ C σ' H', mg c = some (.ref C) → StR K H0 O0 H' σ' ρ' → Kept (OO O0 σ ρ) H (OO O0 σ' ρ') H' → W (.ref C) none σ' H'
  | .stuck => False
def tS (K : PySem.W.Frag) (mg : Str → Option Value) (W : WX) (nw : Bool) (g : Rho → Out) : TS := fun D σ H =>
  ∃ H0 O0 ρ, StR K H0 O0 H σ ρ ∧ GotS K mg W nw H0 O0 σ ρ H D (g ρ)
abbrev SJ (X : Cx) (W : WX) (nw : Bool) (st : Stmt) (g : Rho → Out) : Prop := PS X st (tS X.K X.mg W nw g)
abbrev BJ (X : Cx) (W : WX) (nw : Bool) (st : List Stmt) (g : Rho → Out) : Prop := PSs X st (tS X.K X.mg W nw g)
def Out.then (o : Out) (k : Rho → Out) : Out := match o with
  | .next ρ => k ρ
  | o => o
section
variable {K : PySem.W.Frag} {mg : Str → Option Value} {W : WX} {nw : Bool} {H0 H H1 : Hp} {O0 : Addr → Prop} {σ σ1 : St} {ρ ρ1 : Rho} {D : Ends}
theorem GotS.later {o : Out} (k : Kept (OO O0 σ ρ) H (OO O0 σ1 ρ1) H1) (G : GotS K mg W nw H0 O0 σ ρ H D o) : GotS K mg W nw H0 O0 σ1 ρ1 H1 D o := by
  cases o with
  | next ρ' => exact fun σ' H' S k' => G σ' H' S (k.trans k')
  | brk ρ' => exact fun σ' H' S k' => G σ' H' S (k.trans k')
  | cont ρ' => exact fun σ' H' S k' => G σ' H' S (k.trans k')
  | ret p => exact G
  | exc c ρ' => exact fun C σ' H' e S k' => G C σ' H' e S (k.trans k')
  | stuck => exact G
/-- an expression's exception, from the statement's -/
theorem exc_of {c : Str} (S : StR K H0 O0 H σ ρ) (G : GotS K mg W nw H0 O0 σ ρ H D (.exc c ρ)) : ∀ C H', Same H H' → mg c = some (.ref C) → W (.ref C) none σ H' :=
  fun C H' s e => G C σ H' e (S.step s) (Kept.same s)
theorem kept_set {i : Nat} {v : Option V} {s : Slot} (hs : ∀ ps, s ≠ .own ps) (sm : Same H H1) : Kept (OO O0 σ ρ) H (OO O0 (σ.set i v) (ρ.set i s)) H1 := fun a o h n => ⟨sm a o h, fun z => n (OO.set_val hs z)⟩
theorem kept_own {i : Nat} {a : Addr} {ps : List PV} (hn : H a = none) (sm : Same H H1) : Kept (OO O0 σ ρ) H (OO O0 (σ.set i (some (.ref a))) (ρ.set i (.own ps))) H1 := fun b o h n => ⟨sm b o h, fun z => by
  rcases z with z | ⟨j, qs, h1, h2⟩
  · exact n (.inl z)
  · by_cases e : i = j
    · subst e
      by_cases hl : i < σ.length
      · rw [List.getElem?_set_self hl] at h2; cases h2
        exact ne_of_none h hn rfl
      · rw [List.getElem?_eq_none (by rw [List.length_set]; omega)] at h2; cases h2
    · rw [List.getElem?_set_ne e] at h1 h2
      exact n (.inr ⟨j, qs, h1, h2⟩)⟩
end
section
variable {X : Cx} {W : WX} {nw : Bool} {st : Stmt} {rest : List Stmt} {e : Expr} {pos : Pos} {f : Rho → R PV} {g h : Rho → Out}
theorem ps_imp {t t' : TS} (h : PS X st t) (q : ∀ D σ H, t' D σ H → t D σ H) : PS X st t' := ⟨fun pins s σ H D I hw => h.run pins s σ H D I (q D σ H hw)⟩
theorem pss_imp {sts : List Stmt} {t t' : TS} (h : PSs X sts t) (q : ∀ D σ H, t' D σ H → t D σ H) : PSs X sts t' := ⟨fun pins s σ H D I hw => h.run pins s σ H D I (q D σ H hw)⟩
def bNil : Rho → Out := .next
def bSeq (g h : Rho → Out) : Rho → Out := fun ρ => (g ρ).then h
theorem b_nil : BJ X W nw [] bNil := by
  refine pss_imp pss_nil fun D σ H ⟨H0, O0, ρ, S, G⟩ => ?_
  exact G σ H S (Kept.refl _ _)
theorem b_cons (h1 : SJ X W nw st g) (h2 : BJ X W nw rest h) : BJ X W nw (st :: rest) (bSeq g h) := by
  refine pss_imp (pss_cons h1 h2) fun D σ H ⟨H0, O0, ρ, S, G⟩ => ⟨H0, O0, ρ, S, ?_⟩
  have G' : GotS X.K X.mg W nw H0 O0 σ ρ H D ((g ρ).then h) := G
  revert G'
  cases g ρ with
  | next ρ' => exact fun G' σ' H' S' k => ⟨H0, O0, ρ', S', GotS.later k G'⟩
  | ret p => exact fun G => G
  | brk ρ' => exact fun G => G
  | cont ρ' => exact fun G => G
  | exc c ρ' => exact fun G => G
  | stuck => exact fun G => G
/-- by an expression, then on -/
def sE (f : Rho → R PV) (k : PV → Rho → Out) : Rho → Out := fun ρ => match f ρ with
  | .ok p => k p ρ
  | .exc c => .exc c ρ
  | .stuck => .stuck
theorem got_e {K : PySem.W.Frag} {mg : Str → Option Value} {H0 H : Hp} {O0 : Addr → Prop} {σ : St} {ρ : Rho} {D : Ends} {m : Md} {k : PV → Rho → Out} {Q : VK} (S : StR K H0 O0 H σ ρ) (G : GotS K mg W nw H0 O0 σ ρ H D (sE f k ρ))
    (hk : ∀ p v H', Same H H' → RepM K O0 σ ρ m H H' v p → GotS K mg W nw H0 O0 σ ρ H D (k p ρ) → Q v H') : Got K mg W O0 σ ρ m H Q (f ρ) := by
  revert G
  unfold sE
  cases f ρ with
  | ok p => exact fun G v H' s r => hk p v H' s r G
  | exc c => exact fun G => exc_of S G
  | stuck => exact fun G => G
def sDrop (f : Rho → R PV) : Rho → Out := sE f fun _ ρ => .next ρ
def sRet (f : Rho → R PV) : Rho → Out := sE f fun p _ => .ret p
theorem s_ret (he : EJ X W .s e f) : SJ X W false (.Return (some e) pos) (sRet f) := by
  refine ps_imp (ps_ret he) fun D σ H ⟨H0, O0, ρ, S, G⟩ => ⟨H0, O0, ρ, S, got_e S G fun p v H' s r G => ?_⟩
  exact G v H' (S.same.trans s) (Rep.less (fun _ z => .inl z) r)
theorem s_retF (he : EJ X W .f e f) : SJ X W true (.Return (some e) pos) (sRet f) := by
  refine ps_imp (ps_ret he) fun D σ H ⟨H0, O0, ρ, S, G⟩ => ⟨H0, O0, ρ, S, got_e S G fun p v H' s r G => ?_⟩
  obtain ⟨a, vs, ps, e1, e2, e3, e4, e5⟩ := r
  exact G v H' (S.same.trans s) ⟨a, vs, ps, e1, e2, S.same.free e3, e4, e5.less fun b z => z.elim (fun z => .inl (.inl z)) .inr⟩
/-- a list of one's own is handed back -/
def sRetO (i : Nat) : Rho → Out := fun ρ => match ρ[i]? with
  | some (.own ps) => .ret (.lst ps)
  | _ => .stuck
def sIf (t : Rho → R Bool) (g h : Rho → Out) : Rho → Out := fun ρ => match t ρ with
  | .ok true => g ρ
  | .ok false => h ρ
  | .exc c => .exc c ρ
  | .stuck => .stuck
theorem s_if {c : Expr} {a b : List Stmt} {t : Rho → R Bool} (hc : TJ X W c t) (ha : BJ X W nw a g) (hb : BJ X W nw b h) : SJ X W nw (.If c a b pos) (sIf t g h) := by
  refine ps_imp (ps_if hc ha hb) fun D σ H ⟨H0, O0, ρ, S, G⟩ => ⟨H0, O0, ρ, S, ?_⟩
  have G' : GotS X.K X.mg W nw H0 O0 σ ρ H D (match t ρ with
    | .ok true => g ρ
    | .ok false => h ρ
    | .exc c => .exc c ρ
    | .stuck => .stuck) := G
  revert G'
  cases t ρ with
  | ok b =>
    cases b with
    | true => exact fun G H' s => by show (if true = true then _ else _); exact iteT ⟨H0, O0, ρ, S.step s, GotS.later (Kept.same s) G⟩
    | false => exact fun G H' s => by show (if false = true then _ else _); exact iteF ⟨H0, O0, ρ, S.step s, GotS.later (Kept.same s) G⟩
  | exc c => exact fun G => exc_of S G
  | stuck => exact fun G => G
def sPass : Rho → Out := .next
def sSet (i : Nat) (f : Rho → R PV) : Rho → Out := sE f fun p ρ => .next (ρ.set i (.val p))
def sSetO (i : Nat) (f : Rho → R PV) : Rho → Out := sE f fun p ρ => match p with
  | .lst ps => .next (ρ.set i (.own ps))
  | _ => .stuck
theorem q_set {K : PySem.W.Frag} {mg : Str → Option Value} {i : Nat} {te : TE} (hte : ∀ σ H Q, tE K mg W .s f σ H Q → te σ H Q) : ∀ D σ H, tS K mg W nw (sSet i f) D σ H → tAsg te (gName i) D σ H := by
  intro D σ H ⟨H0, O0, ρ, S, G⟩
  refine hte _ _ _ ⟨H0, O0, ρ, S, got_e S G fun p v H' s r G => ?_⟩
  exact G _ H' ((S.step s).set (s := .val p) (fun _ z => nomatch z) fun q z => by cases z; exact ⟨v, rfl, r⟩) (kept_set (s := .val p) (fun _ z => nomatch z) s)
theorem q_setO {K : PySem.W.Frag} {mg : Str → Option Value} {i : Nat} {te : TE} (hte : ∀ σ H Q, tE K mg W .f f σ H Q → te σ H Q) : ∀ D σ H, tS K mg W nw (sSetO i f) D σ H → tAsg te (gName i) D σ H := by
  intro D σ H ⟨H0, O0, ρ, S, G⟩
  refine hte _ _ _ ⟨H0, O0, ρ, S, got_e S G fun p v H' s r G => ?_⟩
  obtain ⟨a, vs, ps, rfl, rfl, e3, e4, e5⟩ := r
  exact G _ H' (S.setOwn s e3 e4 e5) (kept_own e3 s)
theorem s_set {i : Nat} {x : Str} {pos' : Pos} (hN : X.N.Nodup) (hi : X.N[i]? = some x) (hx : Loc X.env.scope x) (he : EJ X W .s e f) (hs : swapsWith e (some (.Name x pos')) pos.line X.env = pure false := by rfl) (hf : X.fn x = true ∨ X.env.scope.names.lookup x = some .local := by first | exact .inl rfl | exact .inr rfl | assumption) :
    SJ X W nw (.Assign [.Name x pos'] e pos) (sSet i f) := ps_imp (ps_set hN hi hx he hs hf) (q_set fun _ _ _ z => z)
theorem s_setO {i : Nat} {x : Str} {pos' : Pos} (hN : X.N.Nodup) (hi : X.N[i]? = some x) (hx : Loc X.env.scope x) (he : EJ X W .f e f) (hs : swapsWith e (some (.Name x pos')) pos.line X.env = pure false := by rfl) (hf : X.fn x = true ∨ X.env.scope.names.lookup x = some .local := by first | exact .inl rfl | exact .inr rfl | assumption) :
    SJ X W nw (.Assign [.Name x pos'] e pos) (sSetO i f) := ps_imp (ps_set hN hi hx he hs hf) (q_setO fun _ _ _ z => z)
/-- y = [.. for ..] -/
theorem lcs {i : Nat} {y : Str} {py : Pos} {tg it : Expr} {ifs : List Expr} {scope : Scope} {own : List (Str × Nat)} {spos : Pos} {wi : Rho → R (List PV)} {tgt : PV → Rho → Option Rho} {test : Rho → R Bool} {elt : Rho → R PV} {ts : List Nat} {t : TS}
    (hq : ∀ D σ H, t D σ H → tAsg (tLc (tI X.K X.mg W wi) (tG X.K ts tgt) (tT X.K X.mg WF test) (tE X.K X.mg WF .s elt) (own.map (·.2))) (gName i) D σ H) (hc : X.calm = true) (hN : X.N.Nodup) (hy : X.N[i]? = some y) (hyl : X.env.scope.names.lookup y = some .local)
    (hsw : swapsWith (.ListComp e [⟨tg, it, ifs, 0⟩] scope pos) (some (.Name y py)) spos.line X.env = pure true) (hi : IJ X W tg it wi) (ok : BlkOk X.N X.env.scope scope own)
    (hg : ∀ (s : Shared) (H : Hp) (C : Addr) (cl : List (Str × Addr)) (fp : List Addr), GJ (X.blk s H scope (compEnvC scope cl C X.env) fp) tg ts tgt)
    (ht : ∀ (s : Shared) (H : Hp) (C : Addr) (cl : List (Str × Addr)) (fp : List Addr), CJ (X.blk s H scope (compEnvC scope cl C X.env) fp) WF ifs test)
    (he : ∀ (s : Shared) (H : Hp) (C : Addr) (cl : List (Str × Addr)) (fp : List Addr), EJ (X.blk s H scope (compEnvC scope cl C X.env) fp) WF .s e elt)
    (hs : ∀ x, foldedSetIterable it X.env x = pure x := by intro _; rfl) : PS X (.Assign [.Name y py] (.ListComp e [⟨tg, it, ifs, 0⟩] scope pos) spos) t := ps_imp (ps_setLc hc hN hy hyl hsw hi ok hg ht he hs) hq
theorem q_lc {i : Nat} {wi : Rho → R (List PV)} {tgt : PV → Rho → Option Rho} {test : Rho → R Bool} {elt : Rho → R PV} {vs ts : List Nat} (hts : ∀ i ∈ ts, i ∈ vs) : ∀ D σ H, tS X.K X.mg W nw (sSet i (eLc vs wi tgt test elt)) D σ H → tAsg (tLc (tI X.K X.mg W wi) (tG X.K ts tgt) (tT X.K X.mg WF test) (tE X.K X.mg WF .s elt) vs) (gName i) D σ H :=
  q_set fun σ H Q ⟨H0, O0, ρ, S, G⟩ => lc_run hts σ H Q ⟨H0, O0, ρ, S, by
    revert G
    cases eLc vs wi tgt test elt ρ with
    | ok p => exact fun G v H' s r => G v H' s (RepM.f_s S r)
    | exc c => exact fun G => G
    | stuck => exact fun G => G⟩
/-- target = e -/
def sTo (h : PV → Rho → Option Rho) (f : Rho → R PV) : Rho → Out := sE f fun p ρ => match h p ρ with
  | some ρ' => .next ρ'
  | none => .stuck
theorem s_to {tg : Expr} {ts : List Nat} {h : PV → Rho → Option Rho} (he : EJ X W .s e f) (hg : GJ X tg ts h) (hs : swapsWithSole [tg] e pos.line X.env = pure false := by rfl) (hw : swappedStores [tg] e X.env = pure none := by rfl)
    (h1 : (assignEach [tg] X.env).map (·.2) = [assign tg X.env] := by rfl) : SJ X W nw (.Assign [tg] e pos) (sTo h f) := by
  refine ps_imp (ps_asg he hg hs hw h1) fun D σ H ⟨H0, O0, ρ, S, G⟩ => ⟨H0, O0, ρ, S, got_e S G fun p v H' s r G => ?_⟩
  refine ⟨H0, O0, ρ, p, S.step s, r, ?_⟩
  revert G
  cases h p ρ with
  | none => exact False.elim
  | some ρ' => exact fun G σ' S' l _ _ => G σ' H' S' fun a o ho n => ⟨s a o ho, fun z => n (l a z)⟩
/-- a, b = x, y -/
def sPar (i j : Nat) (fA : Rho → R (List PV)) : Rho → Out := fun ρ => match fA ρ with
  | .ok [p, q] => .next ((ρ.set i (.val p)).set j (.val q))
  | .exc c => .exc c ρ
  | _ => .stuck
/-- x op= e, by values -/
def sAug (i : Nat) (g : PV → PV → R PV) (f : Rho → R PV) : Rho → Out := fun ρ => match ρ[i]? with
  | some (.val x) => sE (fun ρ => (f ρ).bind fun y => g x y) (fun z ρ => .next (ρ.set i (.val z))) ρ
  | _ => .stuck
theorem s_aug {i : Nat} {x : Str} {op : Operator} {r : R2} {g : PV → PV → R PV} {pos' : Pos} (hN : X.N.Nodup) (hi : X.N[i]? = some x) (hx : Loc X.env.scope x) (he : EJ X W .t e f) (hr : OpR X (inplaceOp op) r) (hg : ∀ p q c, g p q ≠ .exc c) (ho : OpS X.K r .t .t .s g) (hf : X.fn x = true ∨ X.env.scope.names.lookup x = some .local := by first | exact .inl rfl | exact .inr rfl | assumption) :
    SJ X W nw (.AugAssign (.Name x pos') op e pos) (sAug i g f) := by
  refine ps_imp (ps_aug hN hi hx he (ti := r) (fun pins s σ H x y v u Q I r1 r2 h => hr pins s σ H x y v u Q I r1 r2 h) hf) fun D σ H ⟨H0, O0, ρ, S, G⟩ => ?_
  unfold sAug at G
  split at G
  · rename_i p hp
    obtain ⟨v, e1, e2⟩ := S.val i p hp
    refine ⟨v, e1, H0, O0, ρ, S, ?_⟩
    have G' : GotS X.K X.mg W nw H0 O0 σ ρ H D (match (f ρ).bind fun y => g p y with
      | .ok z => .next (ρ.set i (.val z))
      | .exc c => .exc c ρ
      | .stuck => .stuck) := G
    revert G'
    cases f ρ with
    | stuck => exact False.elim
    | exc c => exact fun G => exc_of S G
    | ok q =>
      intro G y H1 s1 r1
      refine ho S s1 (RepM.s_t (H := H) (Rep.same s1 e2)) r1 ?_
      revert G
      rw [R.bind_ok]
      cases hz : g p q with
      | stuck => exact False.elim
      | exc c => exact absurd hz (hg p q c)
      | ok z => exact fun G w H2 s2 r2 => G _ H2 ((S.step (s1.trans s2)).set (s := .val z) (fun _ z => nomatch z) fun q z => by cases z; exact ⟨w, rfl, r2⟩) (kept_set (s := .val z) (fun _ z => nomatch z) (s1.trans s2))
  · exact G.elim
theorem s_augAdd {i : Nat} {x : Str} {pos' : Pos} (hN : X.N.Nodup) (hi : X.N[i]? = some x) (hx : Loc X.env.scope x) (he : EJ X W .t e f) (hf : X.fn x = true ∨ X.env.scope.names.lookup x = some .local := by first | exact .inl rfl | exact .inr rfl | assumption) :
    SJ X W nw (.AugAssign (.Name x pos') .Add e pos) (sAug i (intP (fun _ _ => true) fun a b => .int (a + b)) f) := s_aug hN hi hx he iop_add intP_exc (s_int0 fun _ _ _ _ => .int _) hf
theorem s_augMul {i : Nat} {x : Str} {pos' : Pos} (hN : X.N.Nodup) (hi : X.N[i]? = some x) (hx : Loc X.env.scope x) (he : EJ X W .t e f) (hf : X.fn x = true ∨ X.env.scope.names.lookup x = some .local := by first | exact .inl rfl | exact .inr rfl | assumption) :
    SJ X W nw (.AugAssign (.Name x pos') .Mult e pos) (sAug i mulP f) := s_aug hN hi hx he iop_mulW intP_exc (s_int (fun _ _ h => of_decide_eq_true h) fun _ _ _ _ => .int _) hf
/-- a list is let go -/
def sFrz (i : Nat) (g : Rho → Out) : Rho → Out := fun ρ => match ρ[i]? with
  | some (.own ps) => g (ρ.set i (.val (.lst ps)))
  | _ => g ρ
theorem s_frz {i : Nat} {sts : List Stmt} (h : BJ X W nw sts g) : BJ X W nw sts (sFrz i g) := by
  refine pss_imp h fun D σ H ⟨H0, O0, ρ, S, G⟩ => ?_
  unfold sFrz at G
  split at G
  · rename_i ps hp
    have k : Kept (OO O0 σ ρ) H (OO O0 σ (ρ.set i (.val (.lst ps)))) H := fun a o h n => ⟨h, fun z => n (by
      rcases z with z | ⟨j, qs, h1, h2⟩
      · exact .inl z
      · by_cases e : i = j
        · subst e
          rw [List.getElem?_set_self (List.getElem?_eq_some_iff.mp hp).1] at h1; cases h1
        · rw [List.getElem?_set_ne e] at h1
          exact .inr ⟨j, qs, h1, h2⟩)⟩
    exact ⟨H0, O0, _, S.freeze hp, GotS.later k G⟩
  · exact ⟨H0, O0, ρ, S, G⟩
end
end PL
set_option Elab.async false
set_option linter.all false
set_option maxRecDepth 100000
set_option autoImplicit false
namespace PL
open PySem PySem.Spec L2
open PyProof.Rows hiding St
section
variable {X : Cx} {W : WX} {nw : Bool} {st : Stmt} {rest : List Stmt} {e : Expr} {pos : Pos} {f : Rho → R PV} {g h : Rho → Out}
def forL (tgt : PV → Rho → Option Rho) (body : Rho → Out) : List PV → Rho → Out
  | [], ρ => .next ρ
  | p :: ps, ρ => match tgt p ρ with
    | none => .stuck
    | some ρ1 => match body ρ1 with
      | .next ρ' => forL tgt body ps ρ'
      | .cont ρ' => forL tgt body ps ρ'
      | .brk ρ' => .next ρ'
      | o => o
def sFor (it : Rho → R (List PV)) (tgt : PV → Rho → Option Rho) (body : Rho → Out) : Rho → Out := fun ρ => match it ρ with
  | .ok items => forL tgt body items ρ
  | .exc c => .exc c ρ
  | .stuck => .stuck
theorem s_for {tg it : Expr} {body : List Stmt} {wi : Rho → R (List PV)} {tgt : PV → Rho → Option Rho} {ts : List Nat} (hp : PassesOwn (model X.prog X.w) X.A X.env X.xe) (hc : X.calm = true) (hi : IJ X W tg it wi) (hg : GJ X tg ts tgt) (hb : BJ X W nw body g) (hs : ∀ x, foldedSetIterable it X.env x = pure x := by intro _; rfl) : SJ X W nw (.For tg it body [] pos) (sFor wi tgt g) := by
  refine ps_imp (ps_for hp hc hi hg hb hs) fun D σ H ⟨H0, O0, ρ, S, G⟩ => ⟨H0, O0, ρ, S, ?_⟩
  have G' : GotS X.K X.mg W nw H0 O0 σ ρ H D (match wi ρ with
    | .ok items => forL tgt g items ρ
    | .exc c => .exc c ρ
    | .stuck => .stuck) := G
  revert G'
  cases wi ρ with
  | stuck => exact False.elim
  | exc c => exact fun G => exc_of S G
  | ok items =>
    intro G J H1 s1 ok
    refine ⟨fun i m σc Hc => m = items.length - i ∧ i ≤ items.length ∧ ∃ ρc, StR X.K H0 O0 Hc σc ρc ∧ Kept (OO O0 σ ρ) H1 (OO O0 σc ρc) Hc ∧ GotS X.K X.mg W nw H0 O0 σc ρc Hc D (forL tgt g (items.drop i) ρc),
      ⟨items.length, by simp, Nat.zero_le _, ρ, S.step s1, Kept.refl _ _, by rw [List.drop_zero]; exact GotS.later (Kept.same s1) G⟩, ?_⟩
    rintro i m σc Hc ⟨rfl, hi, ρc, Sc, kc, Gc⟩
    by_cases hlt : i < items.length
    · refine .inr ⟨ok.go i Hc _ kc hlt, fun σ' H' => ∃ ρ', StR X.K H0 O0 H' σ' ρ' ∧ Kept (OO O0 σ ρ) H1 (OO O0 σ' ρ') H' ∧ GotS X.K X.mg W nw H0 O0 σ' ρ' H' D (forL tgt g (items.drop (i + 1)) ρ'), fun σ' H' n => ⟨items.length - (i + 1), by omega, rfl, hlt, n⟩, fun x Hy hy => ?_⟩
      have hg : items[i]? = some items[i] := List.getElem?_eq_getElem hlt
      obtain ⟨sy, ry⟩ := ok.yld i Hc _ x Hy _ kc (fun a z => Sc.there z) hg hy
      have hdr : items.drop i = items[i] :: items.drop (i + 1) := List.drop_eq_getElem_cons hlt
      rw [hdr] at Gc
      refine ⟨H0, O0, ρc, items[i], Sc.step sy, ry, ?_⟩
      unfold forL at Gc
      revert Gc
      cases tgt items[i] ρc with
      | none => exact False.elim
      | some ρ1 =>
        intro Gc σ2 S2 l2 _ _
        have k2 : Kept (OO O0 σc ρc) Hc (OO O0 σ2 ρ1) Hy := fun a o h n => ⟨sy a o h, fun z => n (l2 a z)⟩
        refine ⟨H0, O0, ρ1, S2, ?_⟩
        have Gc' := GotS.later k2 Gc
        revert Gc'
        dsimp only
        cases g ρ1 with
        | next ρ' => exact fun Gc' σ' H' S' k' => ⟨ρ', S', (kc.trans k2).trans k', GotS.later k' Gc'⟩
        | cont ρ' => exact fun Gc' σ' H' S' k' => ⟨ρ', S', (kc.trans k2).trans k', GotS.later k' Gc'⟩
        | brk ρ' => exact fun G => G
        | ret p => exact fun G => G
        | exc c ρ' => exact fun G => G
        | stuck => exact fun G => G
    · have e : i = items.length := by omega
      subst e
      rw [List.drop_length] at Gc
      exact .inl ⟨ok.stop _ Hc _ kc (Nat.le_refl _), Gc σc Hc Sc (Kept.refl _ _)⟩
def whN (t : Rho → R Bool) (b : Rho → Out) : Nat → Rho → Out
  | 0, _ => .stuck
  | n + 1, ρ => match t ρ with
    | .stuck => .stuck
    | .exc c => .exc c ρ
    | .ok false => .next ρ
    | .ok true => match b ρ with
      | .next ρ' => whN t b n ρ'
      | .cont ρ' => whN t b n ρ'
      | .brk ρ' => .next ρ'
      | o => o
theorem whN_more {t : Rho → R Bool} {b : Rho → Out} : ∀ (n : Nat) (ρ : Rho), whN t b n ρ ≠ .stuck → whN t b (n + 1) ρ = whN t b n ρ
  | 0, ρ, h => absurd rfl h
  | n + 1, ρ, h => by
    unfold whN at h
    rw [whN]
    conv => rhs; rw [whN]
    revert h
    cases t ρ with
    | stuck => exact fun _ => rfl
    | exc c => exact fun _ => rfl
    | ok k =>
      cases k with
      | false => exact fun _ => rfl
      | true =>
        dsimp only
        cases b ρ with
        | next ρ' => exact fun h => whN_more n ρ' h
        | cont ρ' => exact fun h => whN_more n ρ' h
        | _ => exact fun _ => rfl
theorem whN_le {t : Rho → R Bool} {b : Rho → Out} {n m : Nat} {ρ : Rho} (h : whN t b n ρ ≠ .stuck) (hl : n ≤ m) : whN t b m ρ = whN t b n ρ := by
  induction m with
  | zero => rw [Nat.le_zero.mp hl]
  | succ m ih =>
    by_cases e : n = m + 1
    · rw [e]
    · have q := ih (by omega)
      rw [whN_more m ρ (by rw [q]; exact h), q]
open Classical in
noncomputable def sWh (t : Rho → R Bool) (b : Rho → Out) (ρ : Rho) : Out := if h : ∃ n, whN t b n ρ ≠ .stuck then whN t b h.choose ρ else .stuck
theorem sWh_of {t : Rho → R Bool} {b : Rho → Out} {n : Nat} {ρ : Rho} (h : whN t b n ρ ≠ .stuck) : sWh t b ρ = whN t b n ρ := by
  have hx : ∃ n, whN t b n ρ ≠ .stuck := ⟨n, h⟩
  unfold sWh
  rw [dif_pos hx]
  have hc := hx.choose_spec
  rcases Nat.le_total n hx.choose with l | l
  · exact whN_le h l
  · exact (whN_le hc l).symm
theorem sWh_ex {t : Rho → R Bool} {b : Rho → Out} {ρ : Rho} (h : sWh t b ρ ≠ .stuck) : ∃ n, whN t b n ρ = sWh t b ρ := by
  by_cases hx : ∃ n, whN t b n ρ ≠ .stuck
  · obtain ⟨n, hn⟩ := hx
    exact ⟨n, (sWh_of hn).symm⟩
  · unfold sWh at h
    rw [dif_neg hx] at h
    exact absurd rfl h
/-- one turn -/
theorem sWh_eq (t : Rho → R Bool) (b : Rho → Out) (ρ : Rho) : sWh t b ρ = (match t ρ with
    | .stuck => .stuck
    | .exc c => .exc c ρ
    | .ok false => .next ρ
    | .ok true => match b ρ with
      | .next ρ' => sWh t b ρ'
      | .cont ρ' => sWh t b ρ'
      | .brk ρ' => .next ρ'
      | o => o) := by
  have go : ∀ ρ', (∀ n, whN t b (n + 1) ρ = whN t b n ρ') → sWh t b ρ = sWh t b ρ' := fun ρ' q => by
    by_cases h : sWh t b ρ' = .stuck
    · rw [h]
      by_cases h2 : sWh t b ρ = .stuck
      · exact h2
      · obtain ⟨n, hn⟩ := sWh_ex h2
        have hn' : whN t b n ρ ≠ .stuck := by rw [hn]; exact h2
        have e : whN t b n ρ' ≠ .stuck := by rw [← q n, whN_more n ρ hn']; exact hn'
        rw [sWh_of e] at h
        exact absurd h e
    · obtain ⟨n, hn⟩ := sWh_ex h
      have e : whN t b (n + 1) ρ ≠ .stuck := by rw [q n, hn]; exact h
      rw [sWh_of e, q n, hn]
  have one : ∀ o, o ≠ .stuck → whN t b 1 ρ = o → sWh t b ρ = o := fun o ho e => by rw [← e]; exact sWh_of (by rw [e]; exact ho)
  have non : (∀ n, whN t b n ρ = .stuck) → sWh t b ρ = .stuck := fun q => by
    unfold sWh
    rw [dif_neg (fun ⟨n, hn⟩ => hn (q n))]
  cases ht : t ρ with
  | stuck => exact non fun n => by cases n with | zero => rfl | succ n => rw [whN, ht]
  | exc c => exact one _ (fun z => nomatch z) (by rw [whN, ht])
  | ok k =>
    cases k with
    | false => exact one _ (fun z => nomatch z) (by rw [whN, ht])
    | true =>
      dsimp only
      cases hb : b ρ with
      | next ρ' => exact go ρ' fun n => by rw [whN, ht]; dsimp only; rw [hb]
      | cont ρ' => exact go ρ' fun n => by rw [whN, ht]; dsimp only; rw [hb]
      | brk ρ' => exact one _ (fun z => nomatch z) (by rw [whN, ht]; dsimp only; rw [hb])
      | ret p => exact one _ (fun z => nomatch z) (by rw [whN, ht]; dsimp only; rw [hb])
      | exc c ρ' => exact one _ (fun z => nomatch z) (by rw [whN, ht]; dsimp only; rw [hb])
      | stuck => exact non fun n => by cases n with | zero => rfl | succ n => rw [whN, ht]; dsimp only; rw [hb]
theorem s_while {c : Expr} {body : List Stmt} {t : Rho → R Bool} (hp : PassesOwn (model X.prog X.w) X.A X.env X.xe) (hc : TJ X W c t) (hb : BJ X W nw body g) : SJ X W nw (.While c body [] pos) (sWh t g) := by
  refine ps_imp (ps_while hp hc hb) fun D σ H ⟨H0, O0, ρ, S, G⟩ => ?_
  have ns : sWh t g ρ ≠ .stuck := fun z => by rw [z] at G; exact G
  obtain ⟨n, hn⟩ := sWh_ex ns
  rw [← hn] at G
  refine ⟨fun m σc Hc => ∃ ρc, StR X.K H0 O0 Hc σc ρc ∧ GotS X.K X.mg W nw H0 O0 σc ρc Hc D (whN t g m ρc), ⟨n, ρ, S, G⟩, ?_⟩
  rintro m σc Hc ⟨ρc, Sc, Gc⟩
  cases m with
  | zero => exact Gc.elim
  | succ m =>
    refine ⟨H0, O0, ρc, Sc, ?_⟩
    unfold whN at Gc
    revert Gc
    cases t ρc with
    | stuck => exact False.elim
    | exc c => exact fun G => exc_of Sc G
    | ok k =>
      cases k with
      | false => exact fun G H1 s1 => iteF (G σc H1 (Sc.step s1) (Kept.same s1))
      | true =>
        dsimp only
        intro G H1 s1
        refine iteT ⟨fun σ' H' => ∃ ρ', StR X.K H0 O0 H' σ' ρ' ∧ GotS X.K X.mg W nw H0 O0 σ' ρ' H' D (whN t g m ρ'), fun σ' H' z => ⟨m, Nat.lt_succ_self m, z⟩, H0, O0, ρc, Sc.step s1, ?_⟩
        have G' := GotS.later (Kept.same s1) G
        revert G'
        cases g ρc with
        | next ρ' => exact fun Gc' σ' H' S' k' => ⟨ρ', S', GotS.later k' Gc'⟩
        | cont ρ' => exact fun Gc' σ' H' S' k' => ⟨ρ', S', GotS.later k' Gc'⟩
        | brk ρ' => exact fun G => G
        | ret p => exact fun G => G
        | exc c ρ' => exact fun G => G
        | stuck => exact fun G => G
theorem kept_write {O0 : Addr → Prop} {σ : St} {ρ : Rho} {H : Hp} {i : Nat} {a : Addr} {ps qs : List PV} {ws : List V} (h1 : ρ[i]? = some (.own ps)) (h2 : σ[i]? = some (some (.ref a))) : Kept (OO O0 σ ρ) H (OO O0 σ (ρ.set i (.own qs))) (upd H a (.lst ws)) := fun b o h n =>
  ⟨by rw [upd_ne (fun z => n (by rw [z]; exact .inr ⟨i, ps, h1, h2⟩))]; exact h, fun z => n (by
    rcases z with z | ⟨j, rs, e1, e2⟩
    · exact .inl z
    · by_cases e : i = j
      · subst e; exact .inr ⟨i, ps, h1, e2⟩
      · rw [List.getElem?_set_ne e] at e1; exact .inr ⟨j, rs, e1, e2⟩)⟩
/-- by the list of slot i and a value -/
def sMut (i : Nat) (g : List PV → PV → R (List PV)) (f : Rho → R PV) : Rho → Out := fun ρ => match ρ[i]? with
  | some (.own ps) => sE f (fun p ρ => match g ps p with
    | .ok qs => .next (ρ.set i (.own qs))
    | _ => .stuck) ρ
  | _ => .stuck
def appP (ps : List PV) (p : PV) : R (List PV) := if ps.length < sizeLine then .ok (ps ++ [p]) else .stuck
variable {o : Expr} {apos : Pos} {i : Nat}
theorem s_app (ho : PE X o (tVar i)) (he : EJ X W .s e f) (hs : swapsWith (.Call (.Attribute o "append" apos) [e] [] pos) none pos.line X.env = pure false := by rfl)
    (hbase : attributeBase o "append" X.env (eval o X.env) = eval o X.env := by rfl)
    (hfew : ((backTo pos (starEach [e] X.env)).all (fun x => !x.1) && (backToKw pos (keywordEach [] X.env)).all (fun x => x.1.isSome)
      && decide ([e].length + ([] : List Keyword).length + (if ([] : List Keyword).isEmpty then 0 else 1) < 30)) = true := by rfl)
    (hline : (apos.endLine == pos.line) = true := by rfl) (hs1 : starEach [e] X.env = (false, eval e X.env) :: starEach [] X.env := by rfl) (hplain : (backTo pos (starEach [] X.env)).any (·.1) = false := by rfl) :
    SJ X W nw (.Expr (.Call (.Attribute o "append" apos) [e] [] pos) pos) (sMut i appP f) := by
  refine ps_imp (ps_expr (pe_bm PySem.F.plainAttrs_list PySem.F.slot_list_append PySem.F.type_list_append mt_append ho (pa_cons he pa_nil hs1) hbase hfew hline hs1 hplain) hs) fun D σ H ⟨H0, O0, ρ, S, G⟩ => ?_
  unfold sMut at G
  split at G
  · rename_i ps hp
    obtain ⟨a, vs, e1, e2, e3, e4, e5⟩ := S.own i ps hp
    refine ⟨.ref a, e1, .inl ⟨rfl, vs, .inl (.inl e2)⟩, H0, O0, ρ, S, got_e S G fun p v H1 s1 r1 G => ?_⟩
    unfold appP at G
    split at G
    · rename_i qs hq
      split at hq
      · rename_i hz
        cases hq
        have r5 := (e5.same s1).append (.cons (show Rep X.K H1 (OO O0 σ ρ) v p from r1) .nil)
        exact ⟨a, vs, v, rfl, rfl, s1 _ _ e2, by rw [e5.length]; exact hz, G _ _ ((S.step s1).write hp e1 r5) ((Kept.same s1).trans (kept_write hp e1))⟩
      · cases hq
    · exact G.elim
  · exact G.elim
/-- xs[j] = e -/
def setP (ps : List PV) (p : PV) : PV → R (List PV)
  | .int k => match ixN ps.length k with
    | some j => .ok (ps.set j p)
    | none => .stuck
  | _ => .stuck
def sSetI (i : Nat) (f fi : Rho → R PV) : Rho → Out := fun ρ => match ρ[i]? with
  | some (.own ps) => sE f (fun p => sE fi fun q ρ => match setP ps p q with
    | .ok qs => .next (ρ.set i (.own qs))
    | _ => .stuck) ρ
  | _ => .stuck
/-- what is known of a class of errors of the text's own -/
structure ExcT (K : PySem.W.Frag) (mg : Str → Option Value) (x : Str) (C : Addr) : Prop where
  g : mg x = some (.ref C)
  ex : PySem.W.excIn K C [.type "ValueError", .type "Exception", .type "BaseException", .type "object"] "ValueError.__new__" = true
  kp : PySem.W.keepIn K (.ref C) = true
  sb : PySem.W.subIn K (.ref C) (.type "BaseException") = some true
  ty : PySem.W.typeIn K (.ref C) = some (.type "type")
def sRaise (x : Str) : Rho → Out := .exc x
theorem s_raise {x m : Str} {C : Addr} {j : Nat} {p p2 p3 : Pos} (T : ExcT X.K X.mg x C) (hc : X.calm = true) (tk : L2N.Takes X W) (hg : Gl X x) (hdb : (x == ("__debug__" : Str)) = false := by decide) : SJ X W nw (.Raise (some (.Call (.Name x p) [.Constant (.str m) j p2] [] p3)) none pos) (sRaise x) := by
  refine ps_imp (L2N.ps_raise hc tk (L2N.pmk_own PySem.F.excBase_ValueError T.ex T.g T.kp (raises_own T.sb T.ty) hg hdb)) fun D σ H ⟨H0, O0, ρ, S, G⟩ => ?_
  exact G C σ H T.g S (Kept.refl _ _)
end
def runF (n : Nat) (g : Rho → Out) : List PV → R PV := fun ps => match g (ps.map Slot.val ++ List.replicate (n - ps.length) Slot.un) with
  | .ret p => .ok p
  | .next _ => .ok .non
  | .exc c _ => .exc c
  | _ => .stuck
theorem start_st {K : PySem.W.Frag} {H : Hp} {O : Addr → Prop} {vs : List V} {ps : List PV} {N : List Str} (al : ∀ a, O a → H a ≠ none) (r : Reps K H O vs ps) : StR K H O H (L2.start N vs) (ps.map Slot.val ++ List.replicate (N.length - ps.length) Slot.un) := by
  have hl := r.length
  have noown : ∀ (i : Nat) qs, (ps.map Slot.val ++ List.replicate (N.length - ps.length) Slot.un)[i]? ≠ some (.own qs) := fun i qs e => by
    have := List.mem_of_getElem? e
    rcases List.mem_append.mp this with z | z
    · obtain ⟨p, _, z⟩ := List.mem_map.mp z
      cases z
    · cases (List.mem_replicate.mp z).2
  have oo : ∀ a, OO O (L2.start N vs) (ps.map Slot.val ++ List.replicate (N.length - ps.length) Slot.un) a → O a := fun a z => by
    rcases z with z | ⟨i, qs, h1, _⟩
    · exact z
    · exact absurd h1 (noown i qs)
  refine ⟨by unfold L2.start; simp [hl], Same.refl H, al, fun i qs h => absurd h (noown i qs), fun i j a qs rs h => absurd h (noown i qs), fun i p h => ?_, fun i a h => by
    have := List.mem_of_getElem? h
    rcases List.mem_append.mp this with z | z
    · obtain ⟨p, _, z⟩ := List.mem_map.mp z
      cases z
    · cases (List.mem_replicate.mp z).2⟩
  by_cases hi : i < ps.length
  · rw [List.getElem?_append_left (by rw [List.length_map]; exact hi), List.getElem?_map] at h
    cases hq : ps[i]? with
    | none => rw [hq] at h; cases h
    | some q =>
      rw [hq] at h
      cases h
      obtain ⟨v, h1, h2⟩ := r.get hq
      refine ⟨v, ?_, h2.less oo⟩
      unfold L2.start
      rw [List.getElem?_append_left (by rw [List.length_map, hl]; exact hi), List.getElem?_map, h1]
      rfl
  · rw [List.getElem?_append_right (by rw [List.length_map]; omega)] at h
    have := List.mem_of_getElem? h
    cases (List.mem_replicate.mp this).2
section
variable {P : Program} {w : World} {K : PySem.W.Frag} {mg : Str → Option Value} {base : Heap}
theorem Fun_okN {x qual : Str} {st : Stmt} {f : Addr} {fd : FuncData} {N ps : List Str} {k : Nat} {sp : Sp} (F : Fun K x qual st f fd) (S : FnScope N ps (defScope st)) (len : ∀ vs H Q E, sp vs H Q E → vs.length = ps.length)
    (hbody : ∀ (cdv : Value) (A : Around) (outer : List PySem.Env) (s : Shared) (H : Hp) (vs : List V) (Q : VK) (E : XK), Room k (A.deeper (envOfC qual (defScope st) s.heap.objs.size f cdv)) → sp vs H Q E →
      ∃ t, PSs (cxOf (L2N.CX P w) P w K mg base N qual (defScope st) f cdv A outer s H E) (defBody st) t ∧ t { nx := fun _ H' => Q .non H', rt := Q } (L2.start N vs) H) : FnOk P w K mg base (L2N.CX P w) (k + 1) f fd ps sp := by
  obtain ⟨oc, od, kV, doc, pm, an, cdv, ct, osl, rfl, lk, hcd⟩ := F.ex
  exact fn_of lk hcd S len fun A outer s H vs Q E hr hsp => hbody cdv A outer s H vs Q E hr hsp
theorem fn_mk {x qual : Str} {st : Stmt} {f : Addr} {fd : FuncData} {N ps : List Str} {k n : Nat} {nw : Bool} {g : Rho → Out} (F : Fun K x qual st f fd) (S : FnScope N ps (defScope st)) (hn : n = ps.length) (hnw : nw = true → ∀ l, ∀ ρ, g l ≠ .next ρ)
    (hbody : ∀ (cdv : Value) (A : Around) (outer : List PySem.Env) (s : Shared) (H : Hp) (E : XK), Room k (A.deeper (envOfC qual (defScope st) s.heap.objs.size f cdv)) →
      BJ (cxOf (L2N.CX P w) P w K mg base N qual (defScope st) f cdv A outer s H E) (fun cls d _ H => E cls d H) nw (defBody st) g) :
    FnOk P w K mg base (L2N.CX P w) (k + 1) f fd ps (spF K mg n nw (runF N.length g)) := by
  refine Fun_okN F S (fun vs H Q E h => ?_) (fun cdv A outer s H vs Q E hr h => ?_)
  · obtain ⟨_, _, _, _, e, _⟩ := h
    rw [e, hn]
  · obtain ⟨qs, O, al, r, e, h⟩ := h
    refine ⟨_, hbody cdv A outer s H E hr, H, O, _, start_st al r, ?_⟩
    have h' : (match runF N.length g qs with
      | .ok p => ∀ v H', Same H H' → RepR K O nw H H' v p → Q v H'
      | .exc c => ∀ C H', Same H H' → mg c = some (.ref C) → E (.ref C) none H'
      | .stuck => False) := h
    unfold runF at h'
    revert h'
    cases hg : g (qs.map Slot.val ++ List.replicate (N.length - qs.length) Slot.un) with
    | ret p => exact fun h v H' s r => h v H' s r
    | next ρ' =>
      intro h σ' H' S' _
      cases nw with
      | false => exact h _ _ S'.same .non
      | true => exact absurd hg (hnw rfl _ _)
    | exc c ρ' => exact fun h C σ' H' e S' _ => h C H' S'.same e
    | brk ρ' => exact False.elim
    | cont ρ' => exact False.elim
    | stuck => exact False.elim
/-- from inside a def: what a body's statements need of its context -/
theorem tk_of {N : List Str} {qual : Str} {scope : Scope} {f : Addr} {cdv : Value} {A : Around} {outer : List PySem.Env} {s : Shared} {H : Hp} {E : XK} : L2N.Takes (cxOf (L2N.CX P w) P w K mg base N qual scope f cdv A outer s H E) (fun cls d _ H => E cls d H) := L2N.takes_of rfl rfl rfl rfl
theorem hp_of {N : List Str} {qual : Str} {scope : Scope} {f : Addr} {cdv : Value} {A : Around} {outer : List PySem.Env} {s : Shared} {H : Hp} {E : XK} : PassesOwn (model P w) (cxOf (L2N.CX P w) P w K mg base N qual scope f cdv A outer s H E).A (cxOf (L2N.CX P w) P w K mg base N qual scope f cdv A outer s H E).env (cxOf (L2N.CX P w) P w K mg base N qual scope f cdv A outer s H E).xe := passes_of rfl
end
structure DefT (K : PySem.W.Frag) (mg : Str → Option Value) (x : Str) (st : Stmt) (ps : List Str) (f : Addr) (fd : FuncData) : Prop where
  F : Fun K x x st f fd
  g : mg x = some (.ref f)
  b : L2.Binds K fd ps []
def DefE (K : PySem.W.Frag) (mg : Str → Option Value) (x : Str) (st : Stmt) (ps : List Str) : Prop := ∃ f fd, DefT K mg x st ps f fd
def Okd (P : Program) (w : World) (K : PySem.W.Frag) (mg : Str → Option Value) (base : Heap) (x : Str) (ps : List Str) (k n : Nat) (nw : Bool) (F : List PV → R PV) : Prop :=
  ∃ f fd, mg x = some (.ref f) ∧ PySem.W.keepIn K (.ref f) = true ∧ L2.Binds K fd ps [] ∧ FnOk P w K mg base (L2N.CX P w) k f fd ps (spF K mg n nw F)
section
variable {P : Program} {w : World} {K : PySem.W.Frag} {mg : Str → Option Value} {base : Heap}
theorem def_ok {x : Str} {st : Stmt} {N ps : List Str} {k n : Nat} {nw : Bool} {g : Rho → Out} (T : DefE K mg x st ps) (S : FnScope N ps (defScope st)) (hn : n = ps.length) (hnw : nw = true → ∀ l, ∀ ρ, g l ≠ .next ρ)
    (hbody : ∀ (f : Addr) (cdv : Value) (A : Around) (outer : List PySem.Env) (s : Shared) (H : Hp) (E : XK), Room k (A.deeper (envOfC x (defScope st) s.heap.objs.size f cdv)) →
      BJ (cxOf (L2N.CX P w) P w K mg base N x (defScope st) f cdv A outer s H E) (fun cls d _ H => E cls d H) nw (defBody st) g) :
    Okd P w K mg base x ps (k + 1) n nw (runF N.length g) := by
  obtain ⟨f, fd, T⟩ := T
  exact ⟨f, fd, T.g, T.F.kp, T.b, fn_mk T.F S hn hnw (hbody f)⟩
variable {X : Cx} {W : WX} {e : Expr} {es : List Expr} {pos p : Pos} {fA : Rho → R (List PV)}
theorem aCons_len {f : Rho → R PV} {g : Rho → R (List PV)} {n : Nat} (h : ∀ ρ ps, g ρ = .ok ps → ps.length = n) : ∀ ρ ps, aCons f g ρ = .ok ps → ps.length = n + 1 := by
  intro ρ ps e
  unfold aCons at e
  revert e
  cases f ρ with
  | ok a =>
    rw [R.bind_ok]
    cases hg : g ρ with
    | ok qs =>
      intro e
      cases e
      rw [List.length_cons, h ρ qs hg]
    | exc c => exact fun e => nomatch e
    | stuck => exact fun e => nomatch e
  | exc c => exact fun e => nomatch e
  | stuck => exact fun e => nomatch e
theorem aNil_len : ∀ ρ ps, aNil ρ = .ok ps → ps.length = 0 := by
  intro ρ ps e
  cases e
  rfl
/-- the parts' lengths, read off the syntax -/
inductive ALen : (Rho → R (List PV)) → Nat → Prop where
  | nil : ALen aNil 0
  | cons {f : Rho → R PV} {g : Rho → R (List PV)} {n : Nat} : ALen g n → ALen (aCons f g) (n + 1)
theorem ALen.ok {g : Rho → R (List PV)} {n : Nat} (h : ALen g n) : ∀ ρ ps, g ρ = .ok ps → ps.length = n := by
  induction h with
  | nil => exact aNil_len
  | cons _ ih => exact aCons_len ih
theorem e_callD {x : Str} {k j n : Nat} {nw : Bool} {F : List PV → R PV} {pn : List Str} (h : Okd X.prog X.w X.K X.mg X.base x pn j n nw F) (hr : Room k X.A) (hjk : j ≤ k) (tk : L2N.Takes X W) (hg : Gl X x) (ha : AJ X W .s (e :: es) fA) (hal : ALen fA n) (hlen : n = es.length + 1 := by rfl) (hdb : (x == ("__debug__" : Str)) = false := by decide)
    (he : starEach (e :: es) X.env = (false, eval e X.env) :: starEach es X.env := by rfl) (hpl : (backTo pos (starEach es X.env)).any (·.1) = false := by rfl) : EJ X W (mdR nw) (.Call (.Name x p) (e :: es) [] pos) (eD F fA) := by
  obtain ⟨f, fd, h1, h2, h3, h4⟩ := h
  have q := e_call (p := p) (pos := pos) (dvs := []) (dps := []) (ds := []) h4 (hr.mono hjk) hg h1 h2 h3 .nil (fun _ _ => .nil) tk ha (by rw [hlen]; rfl) (by rw [← hlen]; exact hal.ok) hdb he hpl
  have e' : eD (fun ps => F (ps ++ [])) fA = eD F fA := by
    funext ρ
    unfold eD
    congr
    funext ps
    rw [List.append_nil]
  rw [e'] at q
  exact q
end
/-- the law's own promise: of the script -/
def spLaw (K : PySem.W.Frag) : Sp := fun vs H Q _ => ∃ (a : Addr) (ns : List Int), vs = [.ref a] ∧ SqL K H a (ns.map V.int) ∧ Only H ∧ ns.length ≤ 63 ∧ (∀ z ∈ ns, Builtin.Int.intBits z ≤ 1048576) ∧ ∀ v H', v = .bl true → Q v H'
theorem bits_log {z : Int} (h : Builtin.Int.intBits z ≤ 1048576) : z.natAbs.log2 < 1048577 := by
  unfold Builtin.Int.intBits at h
  split at h
  · rename_i e
    have e : z.natAbs = 0 := by simpa using e
    rw [e, Nat.log2_zero]; omega
  · omega
/-- bits: each of the script's numbers has at most 2 ^ 20 of them -/
theorem law_impB {P : Program} {w : World} {K : PySem.W.Frag} {mg : Str → Option Value} {base : Heap} {k : Nat} {f : Addr} {fd : FuncData} {ps : List Str} {F : List PV → R PV} (hF : ∀ ns : List Int, ns.length ≤ 63 → (∀ z ∈ ns, z.natAbs.log2 < 1048577) → F [.frz (ns.map PV.int)] = .ok (.bl true))
    (h : FnOk P w K mg base (L2N.CX P w) k f fd ps (spF K mg 1 false F)) : FnOk P w K mg base (L2N.CX P w) k f fd ps (spLaw K) := by
  refine h.imp fun vs H Q E ⟨a, ns, e1, hs, ho, hl, hb, q⟩ => ?_
  subst e1
  refine ⟨[.frz (ns.map PV.int)], fun _ => False, fun _ z => z.elim, .cons (.frz ?_) .nil, rfl, ?_⟩
  · rcases hs with (hs | hs) | hs
    · rcases ho a with z | ⟨o, xs, z⟩
      · rw [z] at hs; cases hs
      · rw [z] at hs; cases hs
    · exact .inl ⟨hs, fun z => z⟩
    · exact .inr fun _ => .inr hs
  · rw [hF ns hl fun z hz => bits_log (hb z hz)]
    intro v H' s r
    cases r
    exact q _ _ rfl
theorem cx_none {P : Program} {w : World} {H : Hp} {s : Shared} {e : Value} {s' : Shared} (h : L2N.CX P w [] H s (fun _ _ _ => False) e s') : False := by
  obtain ⟨_, _, _, _, _, _, _, _, _, _, _, _, z⟩ := h
  exact z
end PL
set_option Elab.async false
set_option linter.all false
set_option maxRecDepth 100000
set_option autoImplicit false
namespace PL
open PySem PySem.Spec L2
open PyProof.Rows hiding St
section
variable {X : Cx} {W : WX} {e a b c : Expr} {pos p : Pos} {f g : Rho → R PV} {es : List Expr} {fA : Rho → R (List PV)}
/-- a constant of the text's top -/
def GlI (mg : Str → Option Value) (x : Str) (i : Int) : Prop := ∃ t, mg x = some (.int i t)
theorem e_glI {x : Str} {i : Int} (h : GlI X.mg x i) (hg : Gl X x) (hd : (x == ("__debug__" : Str)) = false := by decide) : EJ X W .s (.Name x pos) (eC (.int i)) := by
  obtain ⟨t, h⟩ := h
  exact e_const (pe_glob hg h (v := .int i) ⟨t, rfl⟩ hd) fun _ _ _ => .int i
end
def NN (g : Rho → Out) : Prop := ∀ l ρ, g l ≠ .next ρ
theorem nn_e {f : Rho → R PV} {k : PV → Rho → Out} (h : ∀ p l ρ, k p l ≠ .next ρ) : NN (sE f k) := by
  intro l ρ e
  unfold sE at e
  revert e
  cases f l with
  | ok p => exact h p l ρ
  | exc c => exact fun e => nomatch e
  | stuck => exact fun e => nomatch e
theorem nn_ret (f : Rho → R PV) : NN (sRet f) := nn_e fun _ _ _ e => nomatch e
theorem nn_seqL {g h : Rho → Out} (a : NN g) : NN (bSeq g h) := by
  intro l ρ e
  unfold bSeq at e
  have n := a l
  revert e n
  cases g l with
  | next ρ1 => exact fun _ n => absurd rfl (n ρ1)
  | _ => exact fun e => nomatch e
theorem nn_seqR {g h : Rho → Out} (a : NN h) : NN (bSeq g h) := by
  intro l ρ e
  unfold bSeq at e
  revert e
  cases g l with
  | next ρ1 => exact fun e => a ρ1 ρ e
  | _ => exact fun e => nomatch e
section
variable {K : PySem.W.Frag} {h : Heap} {mg : Str → Option Value}
theorem defE_mk (X : K.In h) (G : h.Ns mainGlobals mg) {x : Str} {st : Stmt} {ps : List Str} {f : Addr} {od an : Option Addr} {sl : Array (Option Value)} {oc kV dc pm cd ct : Value}
    (a : PySem.W.nsIn K mainGlobals x = some (some (.ref f))) (l : K.lookup f = some ⟨oc, od, .func (PySem.W.fnOf x x (defArgs st) (defBody st) (defScope st) .none kV dc pm an cd ct), sl⟩) (c : PySem.W.codeIn K cd x = true) (k : PySem.W.keepIn K (.ref f) = true)
    (hb : ∀ (kV doc pm : Value) (an : Option Addr) (cdv ct : Value) (us : List Value), us.length = ps.length → bindArgs (PySem.W.fnOf x x (defArgs st) (defBody st) (defScope st) .none kV doc pm an cdv ct) ⟨us, []⟩ = pure (ps.zip us)) : DefE K mg x st ps :=
  ⟨f, _, fun_mk l c k, PySem.W.mg_of X G a, (fun_mk l c k).binds hb⟩
theorem glI_mk (X : K.In h) (G : h.Ns mainGlobals mg) {x : Str} {i : Int} {t : Tok} (a : PySem.W.nsIn K mainGlobals x = some (some (.int i t))) : GlI mg x i := ⟨t, PySem.W.mg_of X G a⟩
theorem excE_mk (X : K.In h) (G : h.Ns mainGlobals mg) {x : Str} {C : Addr} (a : PySem.W.nsIn K mainGlobals x = some (some (.ref C))) (ex : PySem.W.excIn K C [.type "ValueError", .type "Exception", .type "BaseException", .type "object"] "ValueError.__new__" = true)
    (kp : PySem.W.keepIn K (.ref C) = true) (sb : PySem.W.subIn K (.ref C) (.type "BaseException") = some true) (ty : PySem.W.typeIn K (.ref C) = some (.type "type")) : ∃ C, ExcT K mg x C := ⟨C, PySem.W.mg_of X G a, ex, kp, sb, ty⟩
end
end PL
set_option Elab.async false
set_option linter.all false
set_option maxRecDepth 100000
set_option autoImplicit false
namespace PL
open PySem PySem.Spec L2
open PyProof.Rows hiding St
def isX (i : Nat) (a : Addr) (b : Bool) : Rho → R PV := fun ρ => match ρ[i]? with
  | some (.ex a') => if a' = a then .ok (.bl b) else .stuck
  | _ => .stuck
/-- the call of such a def -/
def hotC (i : Nat) (a : Addr) (F : Addr → R PV) : Rho → R PV := fun ρ => match ρ[i]? with
  | some (.ex a') => if a' = a then (match F a with
    | .ok p => .ok p
    | _ => .stuck) else .stuck
  | _ => .stuck
/-- behind the suite -/
def behindX (i : Nat) : Out → Out
  | .next ρ => .next (ρ.set i .un)
  | .brk ρ => .brk (ρ.set i .un)
  | .cont ρ => .cont (ρ.set i .un)
  | .ret p => .ret p
  | _ => .stuck
theorem takesN {X : Cx} : L2N.Takes X (fun _ _ _ _ => False) := fun _ _ x => by
  obtain ⟨_, _, _, _, _, _, _, _, _, _, _, _, _, _, _, _, z⟩ := x
  exact z.elim
end PL
set_option Elab.async false
set_option linter.all false
set_option maxRecDepth 100000
set_option autoImplicit false
namespace PL
open PySem PySem.Spec L2
open PyProof.Rows hiding St
end PL
set_option Elab.async false
set_option linter.all false
set_option maxRecDepth 100000
set_option autoImplicit false
namespace PL
open PySem PySem.Spec L2
open PyProof.Rows hiding St
end PL
set_option Elab.async false
set_option linter.all false
set_option maxRecDepth 100000
set_option autoImplicit false
namespace PL
open PySem PySem.Spec L2
open PyProof.Rows hiding St
end PL
set_option Elab.async false
set_option linter.all false
set_option maxRecDepth 100000
set_option autoImplicit false
namespace PL
open PySem PySem.Spec L2
open PyProof.Rows hiding St
/-- an equation that is not taken for a computation -/
theorem nr {α : Sort _} {a b : α} (h : a = b) : a = b := h
section
variable {p q x y : PV} {ρ : Rho} {f g h : Rho → R PV} {i j : Nat} {a b c : Int} {k l : Bool} {ps qs : List PV} {s t : Slot}
@[simp] theorem eC_eq : eC p ρ = .ok p := nr rfl
@[simp] theorem eV0 : eV 0 (.val p :: ρ) = .ok p := nr rfl
@[simp] theorem eVs : eV (i + 1) (s :: ρ) = eV i ρ := by simp [eV]
@[simp] theorem eVo0 : eVo 0 (.val p :: ρ) = .ok p := nr rfl
@[simp] theorem eVo0' : eVo 0 (.own ps :: ρ) = .ok (.lst ps) := nr rfl
@[simp] theorem eVos : eVo (i + 1) (s :: ρ) = eVo i ρ := by simp [eVo]
@[simp] theorem bind1 {α β : Type} (a : α) (k : α → R β) : (R.ok a).bind k = k a := nr rfl
@[simp] theorem bind2 {α β : Type} (c : Str) (k : α → R β) : (R.exc c : R α).bind k = .exc c := nr rfl
@[simp] theorem bind3 {α β : Type} (k : α → R β) : (R.stuck : R α).bind k = .stuck := nr rfl
@[simp] theorem e2_eq {w : PV → PV → R PV} : e2 w f g ρ = (f ρ).bind fun x => (g ρ).bind fun y => w x y := nr rfl
@[simp] theorem e1_eq {w : PV → R PV} : e1 w f ρ = (f ρ).bind w := nr rfl
@[simp] theorem eD_eq {w : List PV → R PV} {fA : Rho → R (List PV)} : eD w fA ρ = (fA ρ).bind w := nr rfl
@[simp] theorem aNil_eq : aNil ρ = .ok [] := nr rfl
@[simp] theorem aCons_eq {fA : Rho → R (List PV)} : aCons f fA ρ = (f ρ).bind fun p => (fA ρ).bind fun ps => .ok (p :: ps) := nr rfl
@[simp] theorem tB1_eq : tB1 f ρ = (f ρ).bind asB := nr rfl
@[simp] theorem asB_eq : asB (.bl k) = .ok k := nr rfl
@[simp] theorem asI_eq : asI (.int a) = .ok a := nr rfl
@[simp] theorem tNt_eq {u : Rho → R Bool} : tNt u ρ = (u ρ).bind fun b => .ok (!b) := nr rfl
@[simp] theorem tAn_eq {u v : Rho → R Bool} : tAn u v ρ = (u ρ).bind fun b => if b = true then v ρ else .ok false := nr rfl
@[simp] theorem tOr_eq {u v : Rho → R Bool} : tOr' u v ρ = (u ρ).bind fun b => if b = true then .ok true else v ρ := nr rfl
@[simp] theorem eAn_eq : eAn f g ρ = (f ρ).bind fun p => (asB p).bind fun b => if b = true then g ρ else .ok (.bl false) := nr rfl
@[simp] theorem eOr_eq : eOr f g ρ = (f ρ).bind fun p => (asB p).bind fun b => if b = true then .ok (.bl true) else g ρ := nr rfl
@[simp] theorem notP_eq : notP (.bl k) = .ok (.bl (!k)) := nr rfl
@[simp] theorem negP_eq : negP (.int a) = .ok (.int (-a)) := nr rfl
@[simp] theorem eIf_eq {u : Rho → R Bool} : eIf u f g ρ = (u ρ).bind fun b => if b = true then f ρ else g ρ := nr rfl
@[simp] theorem eChain_eq {w1 w2 : PV → PV → R PV} : eChain w1 w2 f g h ρ = (f ρ).bind fun x => (g ρ).bind fun y => (w1 x y).bind fun z => (asB z).bind fun k => if k = true then (h ρ).bind fun w => w2 y w else .ok (.bl false) := nr rfl
@[simp] theorem addP_ii : addP (.int a) (.int b) = .ok (.int (a + b)) := nr rfl
@[simp] theorem iadd_ii : intP (fun _ _ => true) (fun a b => PV.int (a + b)) (.int a) (.int b) = .ok (.int (a + b)) := nr rfl
@[simp] theorem subP_ii : subP (.int a) (.int b) = .ok (.int (a - b)) := nr rfl
@[simp] theorem ltP_ii : ltP (.int a) (.int b) = .ok (.bl (decide (a < b))) := nr rfl
@[simp] theorem leP_ii : leP (.int a) (.int b) = .ok (.bl (decide (a ≤ b))) := nr rfl
@[simp] theorem gtP_ii : gtP (.int a) (.int b) = .ok (.bl (decide (b < a))) := nr rfl
@[simp] theorem geP_ii : geP (.int a) (.int b) = .ok (.bl (decide (b ≤ a))) := nr rfl
theorem mulP_ii (h : okMul a b = true) : mulP (.int a) (.int b) = .ok (.int (a * b)) := by
  show (if okMul a b = true then _ else _) = _
  rw [if_pos h]
theorem modP_ii (h : b ≠ 0) : modP (.int a) (.int b) = .ok (.int (a.fmod b)) := by
  show (if decide (b ≠ 0) = true then _ else _) = _
  rw [if_pos (decide_eq_true h)]
theorem modP_pos (h : 0 < b) : modP (.int a) (.int b) = .ok (.int (a % b)) := by
  rw [modP_ii (by omega), Int.fmod_eq_emod_of_nonneg a (by omega)]
theorem log2_lt {n m : Nat} (h : n < 2 ^ m) (hm : 0 < m) : n.log2 < m := by
  by_cases h0 : n = 0
  · subst h0; simpa using hm
  · exact (Nat.log2_lt h0).mpr h
theorem fdivP_ii (h : b ≠ 0) (h2 : b.natAbs < 2 ^ 9000) : fdivP (.int a) (.int b) = .ok (.int (a.fdiv b)) := by
  show (if okDiv a b = true then _ else _) = _
  have h3 : b.natAbs.log2 < 9000 := log2_lt h2 (by omega)
  rw [if_pos]
  show (decide (b ≠ 0) && decide (b.natAbs.log2 < 9000)) = true
  rw [decide_eq_true h, decide_eq_true h3] <;> rfl
theorem fdivP_pos (h : 0 < b) (h2 : b < 2 ^ 9000) : fdivP (.int a) (.int b) = .ok (.int (a / b)) := by
  rw [fdivP_ii (by omega) (by omega), Int.fdiv_eq_ediv_of_nonneg a (by omega)]
theorem divmodP_pos (h : 0 < b) (h2 : b < 2 ^ 9000) : divmodP [.int a, .int b] = .ok (.tup [.int (a / b), .int (a % b)]) := by
  unfold divmodP
  dsimp only
  have h3 : b.natAbs.log2 < 9000 := log2_lt (by omega) (by omega)
  rw [if_pos ⟨h, h3⟩]
theorem okMul_of {m n : Nat} (ha : a.natAbs < 2 ^ m) (hb : b.natAbs < 2 ^ n) (h : m + n ≤ 100000000) (hm : 0 < m) (hn : 0 < n) : okMul a b = true := by
  have h1 := log2_lt ha hm
  have h2 := log2_lt hb hn
  exact decide_eq_true (by omega)
theorem powP_ii (h0 : 0 ≤ b) (h1 : b ≤ 1000000) (h2 : a.natAbs < 2 ^ 64) : powP (.int a) (.int b) = .ok (.int (a ^ b.toNat)) := by
  show (if okPow a b = true then _ else _) = _
  rw [if_pos]
  show (decide (0 ≤ b) && decide (b ≤ 1000000) && decide (a.natAbs < 2 ^ 64)) = true
  rw [decide_eq_true h0, decide_eq_true h1, decide_eq_true h2] <;> rfl
/-- what may be compared -/
@[simp] theorem okD_int {n : Nat} : okD n (.int a) = true := by cases n <;> rfl
@[simp] theorem okD_bl {n : Nat} : okD n (.bl k) = true := by cases n <;> rfl
@[simp] theorem okD_non {n : Nat} : okD n .non = true := by cases n <;> rfl
@[simp] theorem okD_lst {n : Nat} : okD (n + 1) (.lst ps) = ps.all (okD n) := nr rfl
@[simp] theorem okD_tup {n : Nat} : okD (n + 1) (.tup ps) = ps.all (okD n) := nr rfl
@[simp] theorem okD_frz {n : Nat} : okD (n + 1) (.frz ps) = ps.all (okD n) := nr rfl
@[simp] theorem okD_str {n : Nat} {z : Str} : okD n (.str z) = PyData.strOk z := by cases n <;> rfl
@[simp] theorem eqV_ii : eqV' (.int a) (.int b) = (a == b) := by simp only [eqV']
@[simp] theorem eqV_bb : eqV' (.bl k) (.bl l) = (k == l) := by simp only [eqV']
@[simp] theorem eqV_ss {u v : Str} : eqV' (.str u) (.str v) = (u == v) := by simp only [eqV']
@[simp] theorem eqV_ll : eqV' (.lst ps) (.lst qs) = eqVs ps qs := by simp only [eqV']
@[simp] theorem eqV_tt : eqV' (.tup ps) (.tup qs) = eqVs ps qs := by simp only [eqV']
@[simp] theorem eqVs_nn : eqVs [] [] = true := by simp only [eqVs]
@[simp] theorem eqVs_cc : eqVs (p :: ps) (q :: qs) = (eqV' p q && eqVs ps qs) := by simp only [eqVs]
@[simp] theorem eqVs_cn : eqVs (p :: ps) [] = false := by simp only [eqVs]
@[simp] theorem eqVs_nc : eqVs [] (q :: qs) = false := by simp only [eqVs]
theorem eqP_ok (h : okD 30 p = true) (h2 : okD 30 q = true) : eqP p q = .ok (.bl (eqV' p q)) := by
  unfold eqP; rw [h, h2, Bool.and_self, if_pos rfl]
theorem neP_ok (h : okD 30 p = true) (h2 : okD 30 q = true) : neP p q = .ok (.bl (!eqV' p q)) := by
  unfold neP; rw [h, h2, Bool.and_self, if_pos rfl]
@[simp] theorem eqP_ii : eqP (.int a) (.int b) = .ok (.bl (a == b)) := by rw [eqP_ok okD_int okD_int, eqV_ii]
@[simp] theorem neP_ii : neP (.int a) (.int b) = .ok (.bl (!(a == b))) := by rw [neP_ok okD_int okD_int, eqV_ii]
@[simp] theorem eqP_bb : eqP (.bl k) (.bl l) = .ok (.bl (k == l)) := by rw [eqP_ok okD_bl okD_bl, eqV_bb]
@[simp] theorem neP_bb : neP (.bl k) (.bl l) = .ok (.bl (!(k == l))) := by rw [neP_ok okD_bl okD_bl, eqV_bb]
theorem eqVs_ints : ∀ ns ms : List Int, eqVs (ns.map PV.int) (ms.map PV.int) = (ns == ms)
  | [], [] => by simp
  | [], _ :: _ => by simp
  | _ :: _, [] => by simp
  | n :: ns, m :: ms => by simp only [List.map_cons, eqVs_cc, eqV_ii, eqVs_ints ns ms]; rfl
/-- kinds -/
@[simp] theorem isi_ii : isiP "int" (.int a) = .ok (.bl true) := by have e : kitB "int" "int" = some true := by decide +kernel
                                                                    unfold isiP tyN; rw [e]
@[simp] theorem isi_ib : isiP "int" (.bl k) = .ok (.bl true) := by have e : kitB "bool" "int" = some true := by decide +kernel
                                                                   unfold isiP tyN; rw [e]
@[simp] theorem isi_in : isiP "int" .non = .ok (.bl false) := by have e : kitB "NoneType" "int" = some false := by decide +kernel
                                                                 unfold isiP tyN; rw [e]
@[simp] theorem isi_is {z : Str} : isiP "int" (.str z) = .ok (.bl false) := by have e : kitB "str" "int" = some false := by decide +kernel
                                                                               unfold isiP tyN; rw [e]
@[simp] theorem isi_it : isiP "int" (.tup ps) = .ok (.bl false) := by have e : kitB "tuple" "int" = some false := by decide +kernel
                                                                      unfold isiP tyN; rw [e]
@[simp] theorem isi_il : isiP "int" (.lst ps) = .ok (.bl false) := by have e : kitB "list" "int" = some false := by decide +kernel
                                                                      unfold isiP tyN; rw [e]
@[simp] theorem isi_if : isiP "int" (.frz ps) = .ok (.bl false) := by have e : kitB "list" "int" = some false := by decide +kernel
                                                                      unfold isiP tyN; rw [e]
@[simp] theorem isi_id : isiP "int" .dct = .ok (.bl false) := by have e : kitB "dict" "int" = some false := by decide +kernel
                                                                 unfold isiP tyN; rw [e]
@[simp] theorem isi_bi : isiP "bool" (.int a) = .ok (.bl false) := by have e : kitB "int" "bool" = some false := by decide +kernel
                                                                      unfold isiP tyN; rw [e]
@[simp] theorem isi_bb : isiP "bool" (.bl k) = .ok (.bl true) := by have e : kitB "bool" "bool" = some true := by decide +kernel
                                                                    unfold isiP tyN; rw [e]
def isT : PV → Bool
  | .tup _ => true
  | _ => false
def isL : PV → Bool
  | .lst _ | .frz _ => true
  | _ => false
theorem isi_tuple : isiP "tuple" p = .ok (.bl (isT p)) := by
  have e1 : kitB "NoneType" "tuple" = some false := by decide +kernel
  have e2 : kitB "bool" "tuple" = some false := by decide +kernel
  have e3 : kitB "int" "tuple" = some false := by decide +kernel
  have e4 : kitB "str" "tuple" = some false := by decide +kernel
  have e5 : kitB "tuple" "tuple" = some true := by decide +kernel
  have e6 : kitB "list" "tuple" = some false := by decide +kernel
  have e7 : kitB "dict" "tuple" = some false := by decide +kernel
  cases p <;> simp [isiP, tyN, e1, e2, e3, e4, e5, e6, e7, isT]
def isB : PV → Bool
  | .bl _ => true
  | _ => false
theorem isi_bool : isiP "bool" p = .ok (.bl (isB p)) := by
  have e1 : kitB "NoneType" "bool" = some false := by decide +kernel
  have e2 : kitB "bool" "bool" = some true := by decide +kernel
  have e3 : kitB "int" "bool" = some false := by decide +kernel
  have e4 : kitB "str" "bool" = some false := by decide +kernel
  have e5 : kitB "tuple" "bool" = some false := by decide +kernel
  have e6 : kitB "list" "bool" = some false := by decide +kernel
  have e7 : kitB "dict" "bool" = some false := by decide +kernel
  cases p <;> simp [isiP, tyN, e1, e2, e3, e4, e5, e6, e7, isB]
/-- whole numbers -/
def isW : PV → Bool
  | .int _ => true
  | _ => false
/-- the body of is_whole, of the laws' own -/
@[simp] theorem isW_int (a : Int) : isW (.int a) = true := rfl
theorem whole_eq : (isiP "int" p).bind (fun x => (asB x).bind fun b => if b = true then (isiP "bool" p).bind notP else .ok (.bl false)) = .ok (.bl (isW p)) := by
  rw [isi_bool]
  cases p <;> simp [isW, isB]
/-- statements -/
@[simp] theorem then_next {k : Rho → Out} : (Out.next ρ).then k = k ρ := nr rfl
@[simp] theorem then_ret {k : Rho → Out} : (Out.ret p).then k = .ret p := nr rfl
@[simp] theorem then_exc {k : Rho → Out} {z : Str} : (Out.exc z ρ).then k = .exc z ρ := nr rfl
@[simp] theorem then_stuck {k : Rho → Out} : Out.stuck.then k = .stuck := nr rfl
@[simp] theorem then_brk {k : Rho → Out} : (Out.brk ρ).then k = .brk ρ := nr rfl
@[simp] theorem then_cont {k : Rho → Out} : (Out.cont ρ).then k = .cont ρ := nr rfl
@[simp] theorem bNil_eq : bNil ρ = .next ρ := nr rfl
@[simp] theorem bSeq_eq {u v : Rho → Out} : bSeq u v ρ = (u ρ).then v := nr rfl
/-- an expression's end within a statement -/
def R.st (r : R PV) (ρ : Rho) (k : PV → Out) : Out := match r with
  | .ok p => k p
  | .exc c => .exc c ρ
  | .stuck => .stuck
@[simp] theorem st_ok {k : PV → Out} : (R.ok p).st ρ k = k p := nr rfl
@[simp] theorem st_exc {k : PV → Out} {z : Str} : (R.exc z).st ρ k = .exc z ρ := nr rfl
@[simp] theorem st_stuck {k : PV → Out} : (R.stuck : R PV).st ρ k = .stuck := nr rfl
@[simp] theorem sE_eq {k : PV → Rho → Out} : sE f k ρ = (f ρ).st ρ fun p => k p ρ := nr rfl
@[simp] theorem sSet_eq : sSet i f ρ = (f ρ).st ρ fun p => .next (ρ.set i (.val p)) := nr rfl
@[simp] theorem sRet_eq : sRet f ρ = (f ρ).st ρ fun p => .ret p := nr rfl
@[simp] theorem sDrop_eq : sDrop f ρ = (f ρ).st ρ fun _ => .next ρ := nr rfl
@[simp] theorem sRaise_eq {z : Str} : sRaise z ρ = .exc z ρ := nr rfl
@[simp] theorem sPass_eq : sPass ρ = .next ρ := nr rfl
@[simp] theorem sTo_eq {w : PV → Rho → Option Rho} : sTo w f ρ = (f ρ).st ρ fun p => match w p ρ with | some ρ' => .next ρ' | none => .stuck := nr rfl
def R.stB (r : R Bool) (ρ : Rho) (k : Bool → Out) : Out := match r with
  | .ok p => k p
  | .exc c => .exc c ρ
  | .stuck => .stuck
@[simp] theorem stB_ok {k : Bool → Out} {b : Bool} : (R.ok b).stB ρ k = k b := nr rfl
@[simp] theorem stB_exc {k : Bool → Out} {z : Str} : (R.exc z).stB ρ k = .exc z ρ := nr rfl
@[simp] theorem stB_stuck {k : Bool → Out} : (R.stuck : R Bool).stB ρ k = .stuck := nr rfl
@[simp] theorem sIf_eq {u : Rho → R Bool} {v w : Rho → Out} : sIf u v w ρ = (u ρ).stB ρ fun b => if b = true then v ρ else w ρ := by
  unfold sIf R.stB
  cases u ρ with
  | ok b => cases b <;> simp
  | exc c => rfl
  | stuck => rfl
def Out.res (o : Out) : R PV := match o with
  | .ret p => .ok p
  | .next _ => .ok .non
  | .exc c _ => .exc c
  | _ => .stuck
@[simp] theorem res_ret : (Out.ret p).res = .ok p := nr rfl
@[simp] theorem res_next : (Out.next ρ).res = .ok .non := nr rfl
@[simp] theorem res_exc {z : Str} : (Out.exc z ρ).res = .exc z := nr rfl
theorem runF_eq {n : Nat} {u : Rho → Out} : runF n u ps = (u (ps.map Slot.val ++ List.replicate (n - ps.length) Slot.un)).res := rfl
@[simp] theorem gN_eq : gN i p ρ = some (ρ.set i (.val p)) := nr rfl
@[simp] theorem gT_eql {w : List PV → Rho → Option Rho} : gT w (.lst ps) ρ = w ps ρ := nr rfl
@[simp] theorem gT_eq {w : List PV → Rho → Option Rho} : gT w (.tup ps) ρ = w ps ρ := nr rfl
@[simp] theorem gsNil_eq : gsNil [] ρ = some ρ := nr rfl
@[simp] theorem gsCons_eq {u : PV → Rho → Option Rho} {w : List PV → Rho → Option Rho} : gsCons u w (p :: ps) ρ = (u p ρ).bind (w ps) := nr rfl
@[simp] theorem sAug0 {w : PV → PV → R PV} : sAug i w f ρ = (match ρ[i]? with
  | some (.val x) => ((f ρ).bind fun y => w x y).st ρ fun z => .next (ρ.set i (.val z))
  | _ => .stuck) := nr rfl
@[simp] theorem lenP_l : lenP [.lst ps] = .ok (.int ps.length) := nr rfl
@[simp] theorem lenP_t : lenP [.tup ps] = .ok (.int ps.length) := nr rfl
@[simp] theorem lenP_f : lenP [.frz ps] = .ok (.int ps.length) := nr rfl
theorem size_ok {n : Nat} (h : n ≤ 1000000) : n ≤ sizeLine := by rw [sizeLine_eq]; omega
theorem lstP_ok (h : ps.length ≤ 1000000) : lstP ps = .ok (.lst ps) := by unfold lstP; rw [if_pos (size_ok h)]
theorem tupP_ok (h : ps.length ≤ 1000000) : tupP ps = .ok (.tup ps) := by unfold tupP; rw [if_pos (size_ok h)]
@[simp] theorem lstP0 : lstP [] = .ok (.lst []) := lstP_ok (by simp)
@[simp] theorem tupP0 : tupP [] = .ok (.tup []) := tupP_ok (by simp)
@[simp] theorem tupP1 : tupP [p] = .ok (.tup [p]) := tupP_ok (by simp)
@[simp] theorem tupP2 : tupP [p, q] = .ok (.tup [p, q]) := tupP_ok (by simp)
@[simp] theorem tupP3 : tupP [p, q, x] = .ok (.tup [p, q, x]) := tupP_ok (by simp)
@[simp] theorem lstP1 : lstP [p] = .ok (.lst [p]) := lstP_ok (by simp)
@[simp] theorem lstP2 : lstP [p, q] = .ok (.lst [p, q]) := lstP_ok (by simp)
@[simp] theorem lstP3 : lstP [p, q, x] = .ok (.lst [p, q, x]) := lstP_ok (by simp)
@[simp] theorem lstP4 : lstP [p, q, x, y] = .ok (.lst [p, q, x, y]) := lstP_ok (by simp)
/-- places -/
theorem atI_at {α : Type} {l : List α} (h0 : 0 ≤ a) : atI l a = l[a.toNat]? := by
  unfold atI ixN
  rw [if_pos h0]
  by_cases h : a < l.length
  · rw [if_pos h]; rfl
  · rw [if_neg h, List.getElem?_eq_none (by omega)]; rfl
theorem ixP_lst (h0 : 0 ≤ a) (h : ps[a.toNat]? = some p) : ixP (.lst ps) (.int a) = .ok p := by unfold ixP; dsimp only; rw [atI_at h0, h]
theorem ixP_tup (h0 : 0 ≤ a) (h : ps[a.toNat]? = some p) : ixP (.tup ps) (.int a) = .ok p := by unfold ixP; dsimp only; rw [atI_at h0, h]
theorem ixP_frz (h0 : 0 ≤ a) (h : ps[a.toNat]? = some p) : ixP (.frz ps) (.int a) = .ok p := by unfold ixP; dsimp only; rw [atI_at h0, h]
@[simp] theorem ixP_t0 : ixP (.tup (p :: ps)) (.int 0) = .ok p := ixP_tup (by omega) rfl
@[simp] theorem ixP_t1 : ixP (.tup (p :: q :: ps)) (.int 1) = .ok q := ixP_tup (by omega) rfl
@[simp] theorem ixP_t2 : ixP (.tup (p :: q :: x :: ps)) (.int 2) = .ok x := ixP_tup (by omega) rfl
@[simp] theorem ixP_l0 : ixP (.lst (p :: ps)) (.int 0) = .ok p := ixP_lst (by omega) rfl
@[simp] theorem ixP_l1 : ixP (.lst (p :: q :: ps)) (.int 1) = .ok q := ixP_lst (by omega) rfl
@[simp] theorem ixP_l2 : ixP (.lst (p :: q :: x :: ps)) (.int 2) = .ok x := ixP_lst (by omega) rfl
end
/-- one turn -/
def turnL (tgt : PV → Rho → Option Rho) (body : Rho → Out) (p : PV) (ρ : Rho) : Out := match tgt p ρ with
  | none => .stuck
  | some ρ1 => body ρ1
theorem forL_inv {tgt : PV → Rho → Option Rho} {body : Rho → Out} (I : Nat → Rho → Prop) : ∀ (items : List PV) (k : Nat) (ρ : Rho), I k ρ →
    (∀ j p ρ, items[j]? = some p → I (k + j) ρ → ∃ ρ', (turnL tgt body p ρ = .next ρ' ∨ turnL tgt body p ρ = .cont ρ') ∧ I (k + j + 1) ρ') → ∃ ρ', forL tgt body items ρ = .next ρ' ∧ I (k + items.length) ρ' := by
  intro items
  induction items with
  | nil => intro k ρ h _; exact ⟨ρ, rfl, h⟩
  | cons p ps ih =>
    intro k ρ h hs
    obtain ⟨ρ1, h1, h2⟩ := hs 0 p ρ rfl h
    obtain ⟨ρ2, h3, h4⟩ := ih (k + 1) ρ1 h2 fun j q ρ' hj hI => by
      have := hs (j + 1) q ρ' (by simpa using hj) (by rw [show k + (j + 1) = k + 1 + j by omega]; exact hI)
      rw [show k + 1 + j + 1 = k + (j + 1) + 1 by omega]
      exact this
    refine ⟨ρ2, ?_, by rw [List.length_cons, show k + (ps.length + 1) = k + 1 + ps.length by omega]; exact h4⟩
    unfold turnL at h1
    unfold forL
    revert h1
    cases tgt p ρ with
    | none => exact fun h1 => by rcases h1 with h1 | h1 <;> cases h1
    | some ρ1' =>
      dsimp only
      intro h1
      rcases h1 with h1 | h1 <;> (rw [h1]; exact h3)
/-- over a range -/
theorem forL_rng {tgt : PV → Rho → Option Rho} {body : Rho → Out} (I : Nat → Rho → Prop) (lo : Int) (n : Nat) (ρ : Rho) (h0 : I 0 ρ)
    (hs : ∀ (j : Nat) ρ, j < n → I j ρ → ∃ ρ', (turnL tgt body (.int (lo + j)) ρ = .next ρ' ∨ turnL tgt body (.int (lo + j)) ρ = .cont ρ') ∧ I (j + 1) ρ') : ∃ ρ', forL tgt body (rngL lo n) ρ = .next ρ' ∧ I n ρ' := by
  obtain ⟨ρ', h1, h2⟩ := forL_inv I (rngL lo n) 0 ρ h0 fun j p ρ hj hI => by
    unfold rngL at hj
    rw [List.getElem?_map] at hj
    cases hn : (List.range n)[j]? with
    | none => rw [hn] at hj; cases hj
    | some m =>
      rw [hn] at hj
      obtain ⟨g1, g2⟩ := List.getElem?_eq_some_iff.mp hn
      rw [List.getElem_range] at g2
      subst g2
      cases hj
      rw [List.length_range] at g1
      rw [Nat.zero_add] at hI ⊢
      exact hs j ρ g1 hI
  rw [rngL_len, Nat.zero_add] at h2
  exact ⟨ρ', h1, h2⟩
theorem sWh_inv {t : Rho → R Bool} {b : Rho → Out} (I : Rho → Prop) (μ : Rho → Nat) (Q : Rho → Prop) (hs : ∀ ρ, I ρ → (t ρ = .ok false ∧ Q ρ) ∨ (t ρ = .ok true ∧ ∃ ρ', (b ρ = .next ρ' ∨ b ρ = .cont ρ') ∧ I ρ' ∧ μ ρ' < μ ρ)) :
    ∀ (n : Nat) (ρ : Rho), μ ρ ≤ n → I ρ → ∃ ρ', sWh t b ρ = .next ρ' ∧ Q ρ' := by
  intro n
  induction n with
  | zero =>
    intro ρ hn h
    rcases hs ρ h with ⟨h1, h2⟩ | ⟨_, _, _, _, h3⟩
    · exact ⟨ρ, by rw [sWh_eq, h1], h2⟩
    · omega
  | succ n ih =>
    intro ρ hn h
    rcases hs ρ h with ⟨h1, h2⟩ | ⟨h1, ρ1, h2, h3, h4⟩
    · exact ⟨ρ, by rw [sWh_eq, h1], h2⟩
    · obtain ⟨ρ2, h5, h6⟩ := ih ρ1 (by omega) h3
      refine ⟨ρ2, ?_, h6⟩
      rw [sWh_eq, h1]
      rcases h2 with h2 | h2 <;> (rw [h2]; exact h5)
def R.stL (r : R (List PV)) (ρ : Rho) (k : List PV → Out) : Out := match r with
  | .ok p => k p
  | .exc c => .exc c ρ
  | .stuck => .stuck
@[simp] theorem stL_ok {k : List PV → Out} {l : List PV} {ρ : Rho} : (R.ok l).stL ρ k = k l := nr rfl
@[simp] theorem sFor_eq {it : Rho → R (List PV)} {tgt : PV → Rho → Option Rho} {body : Rho → Out} {ρ : Rho} : sFor it tgt body ρ = (it ρ).stL ρ fun items => forL tgt body items ρ := nr rfl
@[simp] theorem iR_eq {g : List PV → R (List PV)} {f : Rho → R (List PV)} {ρ : Rho} : iR g f ρ = (f ρ).bind g := nr rfl
@[simp] theorem iS_eq {f : Rho → R PV} {ρ : Rho} : iS f ρ = (f ρ).bind asS := nr rfl
@[simp] theorem iRv_eq {f : Rho → R PV} {ρ : Rho} : iRv f ρ = (f ρ).bind fun p => (asS p).bind fun l => .ok l.reverse := nr rfl
@[simp] theorem asS_l {l : List PV} : asS (.lst l) = .ok l := nr rfl
@[simp] theorem asS_t {l : List PV} : asS (.tup l) = .ok l := nr rfl
@[simp] theorem asS_f {l : List PV} : asS (.frz l) = .ok l := nr rfl
theorem inR_of {a : Int} (h1 : -1000000000000 ≤ a) (h2 : a ≤ 1000000000000) : inR a = true := inR_iff.mpr ⟨by omega, by omega⟩
theorem rng1_sm {a : Int} (h1 : -1000000000000 ≤ a) (h2 : a ≤ 1000000000000) : rng1 [.int a] = .ok (rngL 0 a.toNat) := by
  unfold rng1; dsimp only; rw [if_pos (inR_of h1 h2)]
theorem rng2_sm {a b : Int} (h1 : -1000000000000 ≤ a) (h2 : a ≤ 1000000000000) (h3 : -1000000000000 ≤ b) (h4 : b ≤ 1000000000000) : rng2 [.int a, .int b] = .ok (rngL a (b - a).toNat) := nr rfl
theorem rng2_all {a b : Int} : rng2 [.int a, .int b] = .ok (rngL a (b - a).toNat) := nr rfl
theorem lcGo_map {tgt : PV → Rho → Option Rho} {elt : Rho → R PV} {ρ : Rho} (φ : PV → PV) : ∀ (items : List PV), (∀ p ∈ items, ∃ ρ', tgt p ρ = some ρ' ∧ elt ρ' = .ok (φ p)) → lcGo tgt cYes elt ρ items = .ok (items.map φ)
  | [], _ => rfl
  | p :: ps, h => by
    obtain ⟨ρ', h1, h2⟩ := h p List.mem_cons_self
    have ih := lcGo_map φ ps fun q hq => h q (List.mem_cons_of_mem _ hq)
    unfold lcGo
    rw [h1]
    dsimp only [cYes]
    rw [h2]
    dsimp only
    rw [ih]
    rfl
theorem eLc_ok {vs : List Nat} {it : Rho → R (List PV)} {tgt : PV → Rho → Option Rho} {test : Rho → R Bool} {elt : Rho → R PV} {ρ : Rho} {items qs : List PV} (h1 : vs.all (notOwn ρ) = true) (h2 : it ρ = .ok items) (h3 : items.length ≤ 1000000) (h4 : lcGo tgt test elt (wipeR ρ vs) items = .ok qs) : eLc vs it tgt test elt ρ = .ok (.lst qs) := by
  unfold eLc
  rw [if_pos h1, h2, bind1, if_pos (size_ok h3), h4]
end PL
namespace PL
open PySem PySem.Spec L2
open PyProof.Rows hiding St
section
variable {a b : Int} {p : PV} {ps : List PV}
theorem fdivP_sm (h : 0 < b) (h2 : b ≤ 1000000000000000000000000000000000000000000000000000000000000) : fdivP (.int a) (.int b) = .ok (.int (a / b)) := fdivP_ii (by omega) (by omega) |>.trans (by rw [Int.fdiv_eq_ediv_of_nonneg a (by omega)])
theorem mulP_sm (h : -1000000000000000000000000000000000000000000000000000000000000 ≤ a) (h2 : a ≤ 1000000000000000000000000000000000000000000000000000000000000) (h3 : -1000000000000000000000000000000000000000000000000000000000000 ≤ b) (h4 : b ≤ 1000000000000000000000000000000000000000000000000000000000000) : mulP (.int a) (.int b) = .ok (.int (a * b)) :=
  mulP_ii (okMul_of (m := 250) (n := 250) (by omega) (by omega) (by omega) (by omega) (by omega))
theorem powP_sm (h0 : 0 ≤ b) (h1 : b ≤ 1000000) (h2 : -1000000 ≤ a) (h3 : a ≤ 1000000) : powP (.int a) (.int b) = .ok (.int (a ^ b.toNat)) := powP_ii h0 h1 (by omega)
/-- the item at a place, 0 beyond -/
def nth (l : List Int) (a : Int) : Int := l.getD a.toNat 0
theorem nth_mem {l : List Int} (h0 : 0 ≤ a) (h : a < l.length) : nth l a ∈ l := by
  unfold nth
  rw [List.getD_eq_getElem?_getD, List.getElem?_eq_getElem (by omega)]
  exact List.getElem_mem _
theorem getD_map (ns : List Int) (k : Nat) (h : k < ns.length) : (ns.map PV.int)[k]? = some (.int (ns.getD k 0)) := by
  rw [List.getElem?_map, List.getElem?_eq_getElem h, List.getD_eq_getElem?_getD, List.getElem?_eq_getElem h]
  rfl
/-- an item of a written list of ints -/
theorem ixP_ints {ns : List Int} (h0 : 0 ≤ a) (h : a < ns.length) : ixP (.lst (ns.map PV.int)) (.int a) = .ok (.int (nth ns a)) := ixP_lst h0 (getD_map ns _ (by omega))
theorem ixP_intsF {ns : List Int} (h0 : 0 ≤ a) (h : a < ns.length) : ixP (.frz (ns.map PV.int)) (.int a) = .ok (.int (nth ns a)) := ixP_frz h0 (getD_map ns _ (by omega))
end
end PL
namespace PL
open PySem PySem.Spec L2
open PyProof.Rows hiding St
theorem ixP_ex {a : Int} {ps : List PV} (h0 : 0 ≤ a) (h : a < ps.length) : ∃ p, p ∈ ps ∧ ixP (.lst ps) (.int a) = .ok p :=
  ⟨_, List.getElem_mem (by omega : a.toNat < ps.length), ixP_lst h0 (List.getElem?_eq_getElem (by omega))⟩
end PL
namespace PL
open PySem PySem.Spec L2
open PyProof.Rows hiding St
theorem set_self {ρ : Rho} {i : Nat} {s : Slot} (h : ρ[i]? = some s) : ρ.set i s = ρ := by
  refine List.ext_getElem? fun j => ?_
  by_cases e : i = j
  · subst e; rw [List.getElem?_set_self (List.getElem?_eq_some_iff.mp h).1, h]
  · rw [List.getElem?_set_ne e]
theorem eVo_of {ρ : Rho} {i : Nat} {p : PV} (h : ρ[i]? = some (.val p)) : eVo i ρ = .ok p := by unfold eVo; rw [h]
theorem pow_bound {a : Int} {m : Nat} (h : a.natAbs < 2 ^ m) : ∀ n : Nat, (a ^ n).natAbs < 2 ^ (m * n + 1)
  | 0 => by simp
  | n + 1 => by
    have ih := pow_bound h n
    rw [Int.pow_succ, Int.natAbs_mul, Nat.mul_succ, show m * n + m + 1 = (m * n + 1) + m by omega, Nat.pow_add]
    exact Nat.mul_lt_mul'' ih h
theorem mul_bound {a b : Int} {m n : Nat} (h : a.natAbs < 2 ^ m) (g : b.natAbs < 2 ^ n) : (a * b).natAbs < 2 ^ (m + n) := by
  rw [Int.natAbs_mul, Nat.pow_add]
  exact Nat.mul_lt_mul'' h g
/-- the turn's name behind a loop over range(n) -/
def lastS (ρ : Rho) (a n : Nat) : Slot := if n = 0 then ρ.getD a .un else .val (.int ((n : Int) - 1))
theorem lastS_succ (ρ : Rho) (a n : Nat) : lastS ρ a (n + 1) = .val (.int (0 + n)) := by
  unfold lastS
  rw [if_neg (by omega)]
  congr 2
  omega
/-- for k in range(n): x = x * y -/
theorem mul_loop {i j a : Nat} {ρ : Rho} {x y : Int} (n : Nat) (hi : ρ[i]? = some (.val (.int x))) (hj : ρ[j]? = some (.val (.int y))) (ij : i ≠ j) (aj : a ≠ j) (ai : a ≠ i) (ha : a < ρ.length) (hx : x.natAbs < 2 ^ 200) (hy : y.natAbs < 2 ^ 60) (hn : n ≤ 10000) :
    forL (gN a) (bSeq (sSet i (e2 mulP (eVo i) (eVo j))) bNil) (rngL 0 n) ρ = .next ((ρ.set i (.val (.int (x * y ^ n)))).set a (lastS ρ a n)) := by
  have hil : i < ρ.length := (List.getElem?_eq_some_iff.mp hi).1
  obtain ⟨ρ', e1, rfl⟩ := forL_rng (tgt := gN a) (body := bSeq (sSet i (e2 mulP (eVo i) (eVo j))) bNil) (fun k ρ' => ρ' = (ρ.set i (.val (.int (x * y ^ k)))).set a (lastS ρ a k)) 0 n ρ (by
    unfold lastS
    rw [Int.pow_zero, Int.mul_one, set_self hi, if_pos rfl, List.getD_eq_getElem?_getD, List.getElem?_eq_getElem ha]
    exact (set_self (List.getElem?_eq_getElem ha)).symm) (fun k ρ' hk e => by
    subst e
    refine ⟨_, .inl ?_, rfl⟩
    have hm : mulP (.int (x * y ^ k)) (.int y) = .ok (.int (x * y ^ k * y)) := mulP_ii (okMul_of (mul_bound hx (pow_bound hy k)) hy (by omega) (by omega) (by omega))
    have g1 : (((ρ.set i (.val (.int (x * y ^ k)))).set a (lastS ρ a k)).set a (.val (.int (0 + k))))[i]? = some (.val (.int (x * y ^ k))) := by
      rw [List.getElem?_set_ne ai, List.getElem?_set_ne ai, List.getElem?_set_self hil]
    have g2 : (((ρ.set i (.val (.int (x * y ^ k)))).set a (lastS ρ a k)).set a (.val (.int (0 + k))))[j]? = some (.val (.int y)) := by
      rw [List.getElem?_set_ne aj, List.getElem?_set_ne aj, List.getElem?_set_ne ij, hj]
    simp only [turnL, gN_eq, bSeq_eq, sSet_eq, e2_eq, eVo_of g1, eVo_of g2, bind1, hm, st_ok, then_next, bNil_eq]
    rw [List.set_set, List.set_comm _ _ ai, List.set_set, Int.pow_succ, Int.mul_assoc, lastS_succ])
  exact e1
end PL
set_option Elab.async false
set_option linter.all false
set_option maxRecDepth 100000
set_option autoImplicit false
namespace PL
open PySem PySem.Spec L2
open PyProof.Rows hiding St
end PL
set_option Elab.async false
set_option linter.all false
set_option maxRecDepth 100000
set_option autoImplicit false
namespace PL
open PySem PySem.Spec L2
open PyProof.Rows hiding St
def leastI : List Int → Int
  | [] => 0
  | [n] => n
  | n :: m :: ns => min n (leastI (m :: ns))
theorem leastI_mem : ∀ {ns : List Int}, ns ≠ [] → leastI ns ∈ ns
  | [], h => absurd rfl h
  | [n], _ => List.mem_cons_self
  | n :: m :: ns, _ => by
    have ih := leastI_mem (ns := m :: ns) (fun z => nomatch z)
    show min n (leastI (m :: ns)) ∈ _
    rcases Int.le_total n (leastI (m :: ns)) with h | h
    · rw [Int.min_eq_left h]; exact List.mem_cons_self
    · rw [Int.min_eq_right h]; exact List.mem_cons_of_mem _ ih
theorem leastI_le : ∀ {ns : List Int}, ∀ y ∈ ns, leastI ns ≤ y
  | [], _, h => nomatch h
  | [n], y, h => by rw [List.mem_singleton.mp h]; exact Int.le_refl _
  | n :: m :: ns, y, h => by
    show min n (leastI (m :: ns)) ≤ y
    rcases List.mem_cons.mp h with rfl | h
    · exact Int.min_le_left ..
    · exact Int.le_trans (Int.min_le_right ..) (leastI_le y h)
def sMut0 (i : Nat) (g : List PV → R (List PV)) : Rho → Out := fun ρ => match ρ[i]? with
  | some (.own ps) => (match g ps with
    | .ok qs => .next (ρ.set i (.own qs))
    | _ => .stuck)
  | _ => .stuck
def clearP : List PV → R (List PV) := fun _ => .ok []
def getN (ps : List PV) : PV → Option PV
  | .int k => if 0 ≤ k ∧ k < 1000000 then ps[k.toNat]? else none
  | _ => none
def augN (ps : List PV) : PV → PV → PV → R (List PV)
  | .int k, .int a, .int b => match ixN ps.length k with
    | some j => .ok (ps.set j (.int (a + b)))
    | none => .stuck
  | _, _, _ => .stuck
def sAugI (i : Nat) (fi f : Rho → R PV) : Rho → Out := fun ρ => match ρ[i]? with
  | some (.own ps) => sE fi (fun q ρ => match getN ps q with
    | some x => sE f (fun y ρ => match augN ps q x y with
      | .ok qs => .next (ρ.set i (.own qs))
      | _ => .stuck) ρ
    | none => .stuck) ρ
  | _ => .stuck
end PL
set_option Elab.async false
set_option linter.all false
set_option maxRecDepth 100000
set_option autoImplicit false
namespace PL
open PySem PySem.Spec L2
open PyProof.Rows hiding St
def isBP : PV → PV → R PV
  | .bl a, .bl b => .ok (.bl (decide (a = b)))
  | _, _ => .stuck
def notBP : PV → PV → R PV
  | .bl a, .bl b => .ok (.bl (!decide (a = b)))
  | _, _ => .stuck
@[simp] theorem isBP_bb (a b : Bool) : isBP (.bl a) (.bl b) = .ok (.bl (decide (a = b))) := rfl
@[simp] theorem notBP_bb (a b : Bool) : notBP (.bl a) (.bl b) = .ok (.bl (!decide (a = b))) := rfl
end PL
set_option Elab.async false
set_option linter.all false
set_option maxRecDepth 100000
set_option autoImplicit false
namespace PL
open PySem PySem.Spec L2
open PyProof.Rows hiding St
def kV : V → Nat
  | .int _ => 0 | .bl _ => 1 | .str _ => 2 | .non => 3 | _ => 4
end PL
set_option Elab.async false
set_option linter.all false
set_option maxRecDepth 100000
set_option autoImplicit false
namespace PL
open PySem PySem.Spec L2
open PyProof.Rows hiding St
end PL
set_option Elab.async false
set_option linter.all false
set_option maxRecDepth 100000
set_option autoImplicit false
namespace PL
open PySem PySem.Spec L2
open PyProof.Rows hiding St
open PySem.W (EachIs AllAlike Sortable dataLe dataLt alike)
def rSortD (K : PySem.W.Frag) (u : Nat) : List V → Hp → VK → Prop := fun xs H Q => ∃ (a : Addr) (bs : List (V × PyData)), xs = [V.ref a] ∧ SqL K H a (bs.map fun b => b.1) ∧ (∀ b ∈ bs, Dp K H b.1 b.2) ∧ AllAlike (bs.map fun b => b.2) ∧ Sortable (bs.map fun b => b.2) ∧ (∀ b ∈ bs, u + 2 + b.2.depth < cLine) ∧
  ∀ p, H p = none → Q (.ref p) (upd H p (.lst ((bs.mergeSort (dataLe false fun b => b.2)).map fun b => b.1)))
theorem each_vals : ∀ {bs : List (V × PyData)} {us : List Value}, Vals (bs.map fun b => b.1) us → EachIs (fun v (b : V × PyData) => RelV b.1 v) us bs
  | [], _, .nil => .nil
  | b :: bs, _, .cons h r => .cons h (each_vals r)
theorem vals_each : ∀ {us : List Value} {bs : List (V × PyData)}, EachIs (fun v (b : V × PyData) => RelV b.1 v) us bs → Vals (bs.map fun b => b.1) us
  | _, _, .nil => .nil
  | _, _, .cons h r => .cons h (vals_each r)
theorem cr_sortD {X : Cx} : CallR X (.builtin "sorted") (rSortD X.K X.A.units) := by
  intro pins s σ H xs us Q I r ⟨a, bs, e1, hs, hd, hal, hk, hu, q⟩
  subst e1
  obtain ⟨its, rv, hl, hz⟩ := I.list hs
  obtain ⟨u, rfl, ru⟩ := vals1 r
  obtain rfl : u = Value.ref a := ru
  have e := each_vals rv
  have er : EachIs (fun v (b : V × PyData) => ∃ as, Reads s.heap v b.2 as) its bs := (PySem.W.each_mem e).mono fun v b ⟨h, m⟩ => Dp.reads I b.2 b.1 v (hd b m) h
  refine PySem.W.sorted_data (enc := fun b : V × PyData => b.2) hl.isList e er hal hk (by rw [List.length_map] at hz; exact hz) hu fun out hlen hout => ?_
  obtain ⟨n, hn⟩ := sortedAll_at s.heap its out.toArray
  refine ⟨.ref (s.heap.objs.size + 1), upd H (s.heap.objs.size + 1) (.lst ((bs.mergeSort (dataLe false fun b => b.2)).map fun b => b.1)), I.laid (t' := s.toks) (fun b o e => sortedAll_old e) (Nat.le_succ _) ⟨?_, out, n, vals_each hout, hn⟩, rfl, q _ (I.hok.fresh (Nat.le_succ _))⟩
  rw [List.length_map, List.length_mergeSort]
  rw [List.length_map] at hz
  exact hz
def isTp : PV → Bool
  | .tup (_ :: _) => true
  | _ => false
def isOt : PV → Bool
  | .tup _ => false
  | .non => false
  | _ => true
def leP' (p q : PV) : Bool := !dataLt (toD q) (toD p)
def sortP : List PV → R PV
  | [.lst l] => if (l.all (okD 30) && (l.all fun p => l.all fun q => alike (toD p) (toD q)) && (l.all isTp || l.all isOt)) = true then .ok (.lst (l.mergeSort leP')) else .stuck
  | _ => .stuck
theorem sortP_exc (ps : List PV) (c : Str) : sortP ps ≠ .exc c := by unfold sortP; split <;> (try split) <;> exact fun z => nomatch z
theorem zip_fst {α β : Type} : ∀ {as : List α} {bs : List β}, as.length = bs.length → (as.zip bs).map (fun b => b.1) = as
  | [], [], _ => rfl
  | a :: as, b :: bs, h => by rw [List.zip_cons_cons, List.map_cons, zip_fst (by simpa using h)]
  | [], _ :: _, h => by simp at h
  | _ :: _, [], h => by simp at h
theorem zip_snd {α β : Type} : ∀ {as : List α} {bs : List β}, as.length = bs.length → (as.zip bs).map (fun b => b.2) = bs
  | [], [], _ => rfl
  | a :: as, b :: bs, h => by rw [List.zip_cons_cons, List.map_cons, zip_snd (by simpa using h)]
  | [], _ :: _, h => by simp at h
  | _ :: _, [], h => by simp at h
theorem reps_pairs {K : PySem.W.Frag} {H : Hp} {O : Addr → Prop} : ∀ {l : List (V × PV)}, (∀ b ∈ l, Rep K H O b.1 b.2) → Reps K H O (l.map fun b => b.1) (l.map fun b => b.2)
  | [], _ => .nil
  | b :: l, h => .cons (h b List.mem_cons_self) (reps_pairs fun c hc => h c (List.mem_cons_of_mem _ hc))
theorem reps_zip {K : PySem.W.Frag} {H : Hp} {O : Addr → Prop} : ∀ {vs : List V} {ps : List PV}, Reps K H O vs ps → ∀ b ∈ vs.zip ps, Rep K H O b.1 b.2
  | _, _, .nil, _, h => nomatch h
  | _, _, .cons h r, b, hb => by
    rw [List.zip_cons_cons] at hb
    rcases List.mem_cons.mp hb with rfl | hb
    · exact h
    · exact reps_zip r b hb
theorem s_sortD (K : PySem.W.Frag) (u : Nat) (hu : u + 64 < cLine) : CallS K (rSortD K u) .t .f sortP := by
  intro H0 O0 σ ρ H H2 xs ps Q S s r G
  unfold sortP at G
  split at G
  · split at G
    · rename_i l hz
      rw [Bool.and_eq_true, Bool.and_eq_true] at hz
      obtain ⟨⟨h1, h2⟩, h3⟩ := hz
      obtain ⟨v, rfl, r1⟩ := pr1 r
      obtain ⟨a, vs, rfl, g1, r2⟩ := rt_lst r1
      have el := r2.length
      have mz : ∀ b ∈ vs.zip l, b.2 ∈ l := fun b hb => (List.of_mem_zip hb).2
      have e1 : ((vs.zip l).map fun b => (b.1, toD b.2)).map (fun b => b.1) = vs := by
        rw [List.map_map]; exact zip_fst el
      have e2 : ((vs.zip l).map fun b => (b.1, toD b.2)).map (fun b => b.2) = l.map toD := by
        rw [List.map_map]
        have : ((fun b : V × PyData => b.2) ∘ fun b : V × PV => (b.1, toD b.2)) = toD ∘ fun b : V × PV => b.2 := rfl
        rw [this, ← List.map_map, zip_snd el]
      refine ⟨a, (vs.zip l).map fun b => (b.1, toD b.2), rfl, by rw [e1]; exact .inl (.inl g1), fun b hb => ?_, ?_, ?_, fun b hb => ?_, fun p hp => ?_⟩
      · obtain ⟨c, hc, rfl⟩ := List.mem_map.mp hb
        exact rep_dp 30 (reps_zip r2 c hc) (List.all_eq_true.mp h1 _ (mz c hc))
      · rw [e2]
        intro d hd d' hd'
        obtain ⟨x, hx, rfl⟩ := List.mem_map.mp hd
        obtain ⟨y, hy, rfl⟩ := List.mem_map.mp hd'
        exact List.all_eq_true.mp (List.all_eq_true.mp h2 x hx) y hy
      · rw [e2]
        rw [Bool.or_eq_true] at h3
        rcases h3 with h3 | h3
        · refine .inl fun d hd => ?_
          obtain ⟨x, hx, rfl⟩ := List.mem_map.mp hd
          have := List.all_eq_true.mp h3 x hx
          unfold isTp at this
          split at this
          · exact ⟨_, _, by simp only [toD, toDs]; rfl⟩
          · cases this
        · refine .inr fun d hd => ?_
          obtain ⟨x, hx, rfl⟩ := List.mem_map.mp hd
          have := List.all_eq_true.mp h3 x hx
          unfold isOt at this
          split at this
          · cases this
          · cases this
          · rename_i n1 n2
            refine ⟨fun z => ?_, fun xs z => ?_⟩
            · cases x <;> simp only [toD] at z <;> first | exact n2 rfl | cases z
            · cases x <;> simp only [toD] at z <;> first | exact n1 _ rfl | cases z
      · obtain ⟨c, hc, rfl⟩ := List.mem_map.mp hb
        have := (okD_lay 30 c.2 (List.all_eq_true.mp h1 _ (mz c hc))).2
        show u + 2 + (toD c.2).depth < cLine
        omega
      · have sz : (((vs.zip l).map fun b => (b.1, toD b.2)).mergeSort (dataLe false fun b => b.2)) = ((vs.zip l).mergeSort fun b c => leP' b.2 c.2).map fun b => (b.1, toD b.2) := (PySem.W.sort_maps (fun b : V × PV => (b.1, toD b.2)) fun _ _ _ _ => rfl).symm
        have sv : l.mergeSort leP' = ((vs.zip l).mergeSort fun b c => leP' b.2 c.2).map fun b => b.2 := by
          conv => lhs; rw [← zip_snd el]
          exact (PySem.W.sort_maps (fun b : V × PV => b.2) fun _ _ _ _ => rfl).symm
        rw [sz, List.map_map]
        rw [sv] at G
        refine G _ _ (same_new hp) (new_lst (H0 := H0) s (reps_pairs (l := (vs.zip l).mergeSort fun b c => leP' b.2 c.2) fun b hb => reps_zip r2 b ?_) hp)
        exact ((vs.zip l).mergeSort_perm _).mem_iff.mp hb
    · exact G.elim
  · exact G.elim
section
variable {X : Cx} {W : WX} {e a b : Expr} {pos p : Pos} {fA : Rho → R (List PV)} {f g : Rho → R PV}
theorem e_sort1 (hu : X.A.units + 64 < cLine) (mg : X.mg "sorted" = none) (hg : Gl X "sorted") (ha : AJ X W .t [e] fA) (he : starEach [e] X.env = (false, eval e X.env) :: starEach [] X.env := by rfl) : EJ X W .f (.Call (.Name "sorted" p) [e] [] pos) (eD sortP fA) := e_callB cr_sortD sortP_exc (s_sortD _ _ hu) hg mg (by decide +kernel) ha (he := he)
end
def rngUp (lo c : Int) (n : Nat) : List PV := (List.range n).map fun (i : Nat) => PV.int (lo + i * c)
theorem rngUp_len (lo c : Int) (n : Nat) : (rngUp lo c n).length = n := by unfold rngUp; rw [List.length_map, List.length_range]
def rngN (i j c : Int) : Nat := if i < j then ((j - i - 1) / c + 1).toNat else 0
section
variable {K : PySem.W.Frag} {X : Cx} {W : WX} {tg e e' e'' : Expr} {p pos : Pos} {fA : Rho → R (List PV)}
theorem rngUp_it (lo c : Int) (n : Nat) (O1 : Addr → Prop) (H1 : Hp) : ItOk K (Itc lo c n) (rngUp lo c n) O1 H1 := by
  refine ⟨fun i H O k hi => by rw [rngUp_len] at hi; exact hi, fun i H O k hi => by rw [rngUp_len] at hi; exact hi, fun i H O x H' p k _ hp hy => ?_⟩
  obtain ⟨rfl, rfl⟩ := hy
  unfold rngUp at hp
  rw [List.getElem?_map] at hp
  cases hn : (List.range n)[i]? with
  | none => rw [hn] at hp; cases hp
  | some j =>
    rw [hn] at hp
    obtain ⟨h1, h2⟩ := List.getElem?_eq_some_iff.mp hn
    rw [List.getElem_range] at h2
    cases hp
    rw [h2]
    exact ⟨Same.refl _, .int _⟩
def rng3S : List PV → R (List PV)
  | [.int i, .int j, .int c] => if (decide (-1000000000 ≤ i) && decide (i ≤ 1000000000) && decide (-1000000000 ≤ j) && decide (j ≤ 1000000000) && decide (1 ≤ c) && decide (c ≤ 1000)) = true then .ok (rngUp i c (rngN i j c)) else .stuck
  | _ => .stuck
theorem RgC_up {i j c : Int} (hi : -1000000000 ≤ i) (hi2 : i ≤ 1000000000) (hj : -1000000000 ≤ j) (hj2 : j ≤ 1000000000) (hc : 1 ≤ c) (hc2 : c ≤ 1000) : RgC i j c (rngN i j c) := by
  have e : Builtin.Range.rangeSize i j c = (rngN i j c : Nat) := by
    unfold Builtin.Range.rangeSize rngN
    rw [if_pos (by omega)]
    by_cases h : i < j
    · rw [if_pos h, if_pos h]
      have := Int.ediv_nonneg (show 0 ≤ j - i - 1 by omega) (show 0 ≤ c by omega)
      omega
    · rw [if_neg h, if_neg h]; rfl
  have b : ((rngN i j c : Nat) : Int) ≤ 3000000000 := by
    unfold rngN
    split
    · have := Int.ediv_le_self c (show 0 ≤ j - i - 1 by omega)
      omega
    · decide
  refine ⟨by omega, by omega, ?_, e⟩
  unfold Builtin.Range.small
  rw [e, if_pos (show c > 0 by omega)]
  simp only [Builtin.Range.rangeFitsLong, Bool.and_eq_true, Bool.or_eq_true, decide_eq_true_eq, beq_iff_eq]
  omega
theorem i_rng3S (mg : X.mg "range" = none) (hg : Gl X "range") (ha : AJ X W .t [e, e', e''] fA) (hs : starEach [e, e', e''] X.env = (false, eval e X.env) :: starEach [e', e''] X.env := by rfl) (hpl : (backTo pos (starEach [e', e''] X.env)).any (·.1) = false := by rfl) : IJ X W tg (.Call (.Name "range" p) [e, e', e''] [] pos) (iR rng3S fA) := by
  refine pi_imp (pi_range3 hg mg ha hs hpl) fun σ H Q ⟨H0, O0, ρ, S, G⟩ => ⟨H0, O0, ρ, S, ?_⟩
  revert G
  unfold iR
  cases fA ρ with
  | stuck => exact False.elim
  | exc c => exact fun G => G
  | ok ps =>
    intro G vs H1 s1 r1
    rw [R.bind_ok] at G
    unfold rng3S at G
    split at G
    · split at G
      · rename_i hz
        simp only [Bool.and_eq_true, decide_eq_true_eq] at hz
        obtain ⟨⟨⟨⟨⟨z1, z2⟩, z3⟩, z4⟩, z5⟩, z6⟩ := hz
        cases r1 with
        | cons ra r1 => cases r1 with
          | cons rb r1 => cases r1 with
            | cons rc r1 =>
              cases r1
              rw [rt_int ra, rt_int rb, rt_int rc]
              exact ⟨_, _, _, _, rfl, RgC_up z1 z2 z3 z4 z5 z6, G _ _ s1 (rngUp_it _ _ _ _ _)⟩
      · exact G.elim
    · exact G.elim
end
theorem rng3S_ok {i j c : Int} (hi : -1000000000 ≤ i) (hi2 : i ≤ 1000000000) (hj : -1000000000 ≤ j) (hj2 : j ≤ 1000000000) (hc : 1 ≤ c) (hc2 : c ≤ 1000) : rng3S [.int i, .int j, .int c] = .ok (rngUp i c (rngN i j c)) := by
  unfold rng3S
  dsimp only
  rw [if_pos]
  simp only [Bool.and_eq_true, decide_eq_true_eq]
  omega
end PL
set_option Elab.async false
set_option linter.all false
set_option maxRecDepth 100000
set_option autoImplicit false
namespace PL
open PySem PySem.Spec L2
open PyProof.Rows hiding St
end PL
set_option Elab.async false
set_option linter.all false
set_option maxRecDepth 100000
set_option autoImplicit false
namespace PM
open PySem PySem.Spec L2 PL
open PyProof.Rows hiding St
noncomputable def D_is_whole : Rho → Out := (bSeq (sRet (eAn (e1 (isiP "int") (eVo 0)) (e1 notP (e1 (isiP "bool") (eVo 0))))) bNil)
noncomputable def F_is_whole : List PV → R PV := runF 1 D_is_whole
noncomputable def D_is_prime : Rho → Out := (bSeq (sIf (tOr' (tNt (tB1 (eD F_is_whole (aCons (eV 0) aNil)))) (tOr' (tB1 (e2 ltP (eVo 0) (eC (.int 2)))) (tB1 (e2 gtP (eVo 0) (eC (.int 97)))))) (bSeq (sRet (eC (.bl false))) bNil) bNil) (bSeq (sRet (eD allP (aCons (eLc [1] (iR rng2 (aCons (eC (.int 2)) (aCons (eVo 0) aNil))) (gN 1) cYes (e2 neP (e2 modP (eVo 0) (eVo 1)) (eC (.int 0)))) aNil))) bNil))
noncomputable def F_is_prime : List PV → R PV := runF 2 D_is_prime
noncomputable def D_power_of : Rho → Out := (bSeq (sSet 2 (eC (.int 1))) (bSeq (sFor (iR rng1 (aCons (eVo 1) aNil)) (gN 3) (bSeq (sAug 2 mulP (eVo 0)) bNil)) (bSeq (sRet (eV 2)) bNil)))
noncomputable def F_power_of : List PV → R PV := runF 4 D_power_of
noncomputable def D_exponent : Rho → Out := (bSeq (sSet 2 (eC (.int 0))) (bSeq (sTo (gT (gsCons (gN 3) (gsCons (gN 4) gsNil))) (eD divmodP (aCons (eVo 1) (aCons (eVo 0) aNil)))) (bSeq (sWh (tB1 (e2 eqP (eVo 4) (eC (.int 0)))) (bSeq (sAug 2 (intP (fun _ _ => true) fun a b => .int (a + b)) (eC (.int 1))) (bSeq (sTo (gT (gsCons (gN 3) (gsCons (gN 4) gsNil))) (eD divmodP (aCons (eVo 3) (aCons (eVo 0) aNil)))) bNil))) (bSeq (sRet (eV 2)) bNil))))
noncomputable def F_exponent : List PV → R PV := runF 5 D_exponent
noncomputable def D_divisor : Rho → Out := (bSeq (sSet 0 (eD absP (aCons (eVo 0) aNil))) (bSeq (sSet 1 (eD absP (aCons (eVo 1) aNil))) (bSeq (sWh (tB1 (e2 gtP (eVo 1) (eC (.int 0)))) (bSeq (sPar 0 1 (aCons (eV 1) (aCons (e2 modP (eVo 0) (eVo 1)) aNil))) bNil)) (bSeq (sRet (eV 0)) bNil))))
noncomputable def F_divisor : List PV → R PV := runF 2 D_divisor
noncomputable def D_fraction : Rho → Out := (bSeq (sIf (tOr' (tNt (tB1 (eD F_is_whole (aCons (eV 0) aNil)))) (tOr' (tNt (tB1 (eD F_is_whole (aCons (eV 1) aNil)))) (tB1 (e2 eqP (eVo 1) (eC (.int 0)))))) (bSeq (sRaise "NoFraction") bNil) bNil) (bSeq (sSet 2 (eD F_divisor (aCons (eV 0) (aCons (eV 1) aNil)))) (bSeq (sIf (tB1 (e2 ltP (eVo 1) (eC (.int 0)))) (bSeq (sSet 2 (e1 negP (eVo 2))) bNil) bNil) (bSeq (sRet (eD tupP (aCons (e2 fdivP (eVo 0) (eVo 2)) (aCons (e2 fdivP (eVo 1) (eVo 2)) aNil)))) bNil))))
noncomputable def F_fraction : List PV → R PV := runF 3 D_fraction
noncomputable def D_minus_fraction : Rho → Out := (bSeq (sRet (eD F_fraction (aCons (e2 subP (e2 mulP (e2 ixP (eVo 0) (eC (.int 0))) (e2 ixP (eVo 1) (eC (.int 1)))) (e2 mulP (e2 ixP (eVo 1) (eC (.int 0))) (e2 ixP (eVo 0) (eC (.int 1))))) (aCons (e2 mulP (e2 ixP (eVo 0) (eC (.int 1))) (e2 ixP (eVo 1) (eC (.int 1)))) aNil)))) bNil)
noncomputable def F_minus_fraction : List PV → R PV := runF 2 D_minus_fraction
noncomputable def D_exponent_of : Rho → Out := (bSeq (sRet (e2 subP (eD F_exponent (aCons (eV 0) (aCons (e2 ixP (eVo 1) (eC (.int 0))) aNil))) (eD F_exponent (aCons (eV 0) (aCons (e2 ixP (eVo 1) (eC (.int 1))) aNil))))) bNil)
noncomputable def F_exponent_of : List PV → R PV := runF 2 D_exponent_of
noncomputable def D_alike : Rho → Out := (bSeq (sSet 4 (eD F_minus_fraction (aCons (eV 1) (aCons (eV 2) aNil)))) (bSeq (sRet (eOr (e2 eqP (e2 ixP (eVo 4) (eC (.int 0))) (eC (.int 0))) (e2 geP (eD F_exponent_of (aCons (eV 0) (aCons (eV 4) aNil))) (eVo 3)))) bNil))
noncomputable def F_alike : List PV → R PV := runF 5 D_alike
noncomputable def D_are_figures : Rho → Out := (bSeq (sIf (tNt (tB1 (e1 (isiP2 "list" "tuple") (eVo 1)))) (bSeq (sRet (eC (.bl false))) bNil) bNil) (bSeq (sRet (eD allP (aCons (eLc [2] (iS (eV 1)) (gN 2) cYes (eAn (eD F_is_whole (aCons (eV 2) aNil)) (eChain leP ltP (eC (.int 0)) (eVo 2) (eVo 0)))) aNil))) bNil))
noncomputable def F_are_figures : List PV → R PV := runF 3 D_are_figures
noncomputable def D_left_number : Rho → Out := (bSeq (sIf (tNt (tB1 (eD F_is_prime (aCons (eV 0) aNil)))) (bSeq (sRaise "NoPrime") bNil) bNil) (bSeq (sIf (tNt (tB1 (eD F_is_whole (aCons (eV 1) aNil)))) (bSeq (sRaise "NoPlace") bNil) bNil) (bSeq (sIf (tNt (tB1 (eD F_are_figures (aCons (eV 0) (aCons (eV 2) aNil))))) (bSeq (sRaise "NoFigures") bNil) bNil) (bSeq (sSet 3 (eC (.int 0))) (bSeq (sWh (tAn (tB1 (e2 ltP (eVo 3) (eD lenP (aCons (eVo 2) aNil)))) (tB1 (e2 eqP (e2 ixP (eVo 2) (eVo 3)) (eC (.int 0))))) (bSeq (sAug 3 (intP (fun _ _ => true) fun a b => .int (a + b)) (eC (.int 1))) bNil)) (bSeq (sRet (eD tupP (aCons (eV 0) (aCons (e2 addP (eVo 1) (eVo 3)) (aCons (eD tupleP (aCons (eSl slP (eVo 2) (oSome (eV 3)) oNone) aNil)) aNil))))) bNil))))))
noncomputable def F_left_number : List PV → R PV := runF 4 D_left_number
noncomputable def D_end_of : Rho → Out := (bSeq (sRet (e2 addP (e2 ixP (eVo 0) (eC (.int 1))) (eD lenP (aCons (e2 ixP (eVo 0) (eC (.int 2))) aNil)))) bNil)
noncomputable def F_end_of : List PV → R PV := runF 1 D_end_of
noncomputable def D_known_of : Rho → Out := (bSeq (sRet (eD lenP (aCons (e2 ixP (eVo 0) (eC (.int 2))) aNil))) bNil)
noncomputable def F_known_of : List PV → R PV := runF 1 D_known_of
noncomputable def D_unit_of : Rho → Out := (bSeq (sSet 1 (eC (.int 0))) (bSeq (sFor (iRv (e2 ixP (eVo 0) (eC (.int 2)))) (gN 2) (bSeq (sSet 1 (e2 addP (e2 mulP (eVo 1) (e2 ixP (eVo 0) (eC (.int 0)))) (eVo 2))) bNil)) (bSeq (sRet (eV 1)) bNil)))
noncomputable def F_unit_of : List PV → R PV := runF 3 D_unit_of
noncomputable def D_of_whole : Rho → Out := (bSeq (sSetO 4 (eD lstP aNil)) (bSeq (sFor (iR rng1 (aCons (eVo 3) aNil)) (gN 5) (bSeq (sTo (gT (gsCons (gN 2) (gsCons (gN 6) gsNil))) (eD divmodP (aCons (eVo 2) (aCons (eVo 0) aNil)))) (bSeq (sMut 4 appP (eV 6)) bNil))) (sFrz 4 (bSeq (sRet (eD F_left_number (aCons (eV 0) (aCons (eV 1) (aCons (eV 4) aNil))))) bNil))))
noncomputable def F_of_whole : List PV → R PV := runF 7 D_of_whole
noncomputable def D_amount_of : Rho → Out := (bSeq (sIf (tB1 (e2 geP (e2 ixP (eVo 0) (eC (.int 1))) (eC (.int 0)))) (bSeq (sRet (eD (fun ps => F_fraction (ps ++ [.int 1])) (aCons (e2 mulP (eD F_unit_of (aCons (eV 0) aNil)) (eD F_power_of (aCons (e2 ixP (eVo 0) (eC (.int 0))) (aCons (e2 ixP (eVo 0) (eC (.int 1))) aNil)))) aNil))) bNil) bNil) (bSeq (sRet (eD F_fraction (aCons (eD F_unit_of (aCons (eV 0) aNil)) (aCons (eD F_power_of (aCons (e2 ixP (eVo 0) (eC (.int 0))) (aCons (e1 negP (e2 ixP (eVo 0) (eC (.int 1)))) aNil))) aNil)))) bNil))
noncomputable def F_amount_of : List PV → R PV := runF 1 D_amount_of
noncomputable def D_begins_fraction : Rho → Out := (bSeq (sRet (eD F_alike (aCons (e2 ixP (eVo 0) (eC (.int 0))) (aCons (eV 1) (aCons (eD F_amount_of (aCons (eV 0) aNil)) (aCons (eD F_end_of (aCons (eV 0) aNil)) aNil)))))) bNil)
noncomputable def F_begins_fraction : List PV → R PV := runF 2 D_begins_fraction
noncomputable def D_undone : Rho → Out := (bSeq (sFor (iR rng2 (aCons (eC (.int 1)) (aCons (eVo 0) aNil))) (gN 2) (bSeq (sIf (tB1 (e2 eqP (e2 modP (e2 mulP (eVo 2) (eVo 1)) (eVo 0)) (eC (.int 1)))) (bSeq (sRet (eV 2)) bNil) bNil) bNil)) (bSeq (sRet (eC (.int 0))) bNil))
noncomputable def F_undone : List PV → R PV := runF 3 D_undone
noncomputable def D_turned : Rho → Out := (bSeq (sSet 2 (eD tupP (aCons (eV 1) (aCons (eC (.int 0)) aNil)))) (bSeq (sSet 3 (eD tupP (aCons (e2 modP (eVo 0) (eVo 1)) (aCons (eC (.int 1)) aNil)))) (bSeq (sWh (tB1 (e2 gtP (e2 ixP (eVo 3) (eC (.int 0))) (eC (.int 0)))) (bSeq (sSet 4 (e2 fdivP (e2 ixP (eVo 2) (eC (.int 0))) (e2 ixP (eVo 3) (eC (.int 0))))) (bSeq (sPar 2 3 (aCons (eV 3) (aCons (eD tupP (aCons (e2 subP (e2 ixP (eVo 2) (eC (.int 0))) (e2 mulP (eVo 4) (e2 ixP (eVo 3) (eC (.int 0))))) (aCons (e2 subP (e2 ixP (eVo 2) (eC (.int 1))) (e2 mulP (eVo 4) (e2 ixP (eVo 3) (eC (.int 1))))) aNil))) aNil))) bNil))) (bSeq (sRet (e2 modP (e2 ixP (eVo 2) (eC (.int 1))) (eVo 1))) bNil))))
noncomputable def F_turned : List PV → R PV := runF 5 D_turned
end PM
set_option Elab.async false
set_option linter.all false
set_option maxRecDepth 100000
set_option autoImplicit false
namespace PM
open PySem PySem.Spec L2 PL
open PyProof.Rows hiding St
theorem f_is_whole (p : PV) : F_is_whole [p] = .ok (.bl (isW p)) := by
  show (D_is_whole [.val p]).res = _
  simp [D_is_whole, whole_eq]
def primesL : List Int := [2, 3, 5, 7, 11, 13, 17, 19, 23, 29, 31, 37, 41, 43, 47, 53, 59, 61, 67, 71, 73, 79, 83, 89, 97]
def isP (p : PV) : Bool := match p with
  | .int n => decide (n ∈ primesL)
  | _ => false
def primesN : List Nat := [2, 3, 5, 7, 11, 13, 17, 19, 23, 29, 31, 37, 41, 43, 47, 53, 59, 61, 67, 71, 73, 79, 83, 89, 97]
theorem primes_tab : ((List.range 98).all fun k => (!decide (2 ≤ k)) || (((List.range (k - 2)).all fun i => !(k % (2 + i) == 0)) == primesN.contains k)) = true := by decide +kernel
theorem primes_by (k : Nat) (hk : k < 98) (h2 : 2 ≤ k) : ((List.range (k - 2)).map fun (i : Nat) => (!(((k : Int) % ((2 : Int) + (i : Int))) == 0))).all id = decide ((k : Int) ∈ primesL) := by
  have h := List.all_eq_true.mp primes_tab k (List.mem_range.mpr hk)
  rw [decide_eq_true h2, Bool.not_true, Bool.false_or, beq_iff_eq] at h
  have e1 : (fun (i : Nat) => (!(((k : Int) % ((2 : Int) + (i : Int))) == 0))) = fun i => !(k % (2 + i) == 0) := by
    funext i
    rw [show ((2 : Int) + (i : Int)) = ((2 + i : Nat) : Int) by omega, ← Int.natCast_emod]
    congr 1
    rw [Bool.eq_iff_iff, beq_iff_eq, beq_iff_eq]
    omega
  rw [e1, List.all_map]
  show ((List.range (k - 2)).all fun i => !(k % (2 + i) == 0)) = _
  rw [h, List.contains_eq_mem]
  have e2 : primesL = primesN.map fun (n : Nat) => (n : Int) := rfl
  rw [Bool.eq_iff_iff, decide_eq_true_eq, decide_eq_true_eq, e2, List.mem_map]
  constructor
  · exact fun z => ⟨k, z, rfl⟩
  · rintro ⟨n, z, e⟩
    rw [show k = n by omega]; exact z
theorem primesL_le : ∀ n ∈ primesL, 2 ≤ n ∧ n ≤ 97 := by decide
def neM (k : Int) : PV → PV
  | .int i => .bl (!((k % i) == 0))
  | _ => .non
theorem prime_hr (k : Nat) (hk : k < 98) (h2 : 2 ≤ k) : iR rng2 (aCons (eC (.int 2)) (aCons (eVo 0) aNil)) [.val (.int (k : Int)), .un] = .ok (rngL 2 (k - 2)) := by
  simp only [iR_eq, aCons_eq, eC_eq, bind1, eVo0, aNil_eq]
  rw [rng2_sm (by omega) (by omega) (by omega) (by omega)]
  rw [show ((k : Int) - 2).toNat = k - 2 by omega]
theorem prime_hm (k : Nat) : lcGo (gN 1) cYes (e2 neP (e2 modP (eVo 0) (eVo 1)) (eC (.int 0))) [.val (.int (k : Int)), .un] (rngL 2 (k - 2)) = .ok ((rngL 2 (k - 2)).map (neM k)) :=
  lcGo_map _ _ fun q hq => by
    unfold rngL at hq
    obtain ⟨i, hi, rfl⟩ := List.mem_map.mp hq
    refine ⟨_, rfl, ?_⟩
    simp only [e2_eq, eVo0, bind1, List.set_cons_succ, List.set_cons_zero, eVos, eC_eq]
    rw [modP_pos (by omega)]
    simp [neM]
theorem prime_map (k : Nat) : (rngL 2 (k - 2)).map (neM k) = (((List.range (k - 2)).map fun (i : Nat) => (!(((k : Int) % ((2 : Int) + (i : Int))) == 0)))).map PV.bl := by
  unfold rngL
  rw [List.map_map, List.map_map]
  rfl
theorem allP_bl (bs : List Bool) : allP [.lst (bs.map PV.bl)] = .ok (.bl (bs.all id)) := by
  unfold allP
  dsimp only
  rw [asBs_of]
def primeBs (k : Nat) : List Bool := (List.range (k - 2)).map fun (i : Nat) => (!(((k : Int) % ((2 : Int) + (i : Int))) == 0))
theorem prime_he (k : Nat) (hk : k < 98) (h2 : 2 ≤ k) : eLc [1] (iR rng2 (aCons (eC (.int 2)) (aCons (eVo 0) aNil))) (gN 1) cYes (e2 neP (e2 modP (eVo 0) (eVo 1)) (eC (.int 0))) [.val (.int (k : Int)), .un] = .ok (.lst ((primeBs k).map PV.bl)) := by
  rw [eLc_ok (vs := [1]) (test := cYes) (ρ := [.val (.int (k : Int)), .un]) rfl (prime_hr k hk h2) (by rw [rngL_len]; omega) (prime_hm k), prime_map]
  rfl
theorem f_is_prime (p : PV) : F_is_prime [p] = .ok (.bl (isP p)) := by
  show (D_is_prime [.val p, .un]).res = _
  by_cases hw : isW p = true
  · cases p with
    | int n =>
      by_cases h2 : n < 2
      · have : ¬ n ∈ primesL := fun h => by have := primesL_le n h; omega
        simp [D_is_prime, f_is_whole, isW, h2, isP, this]
      · by_cases h97 : 97 < n
        · have : ¬ n ∈ primesL := fun h => by have := primesL_le n h; omega
          simp [D_is_prime, f_is_whole, isW, h2, h97, isP, this]
        · obtain ⟨k, rfl⟩ : ∃ k : Nat, n = (k : Int) := ⟨n.toNat, by omega⟩
          unfold D_is_prime
          have hb : (primeBs k).all id = decide ((k : Int) ∈ primesL) := primes_by k (by omega) (by omega)
          simp [D_is_prime, f_is_whole, isW, h2, h97, isP, prime_he k (by omega) (by omega), allP_bl, hb]
    | _ => simp [isW] at hw
  · have hw' : isW p = false := by cases h : isW p <;> simp_all
    have hp : isP p = false := by cases p <;> simp_all [isP, isW]
    simp [D_is_prime, f_is_whole, hw', hp]
theorem f_power_of (p k : Int) (hp : p.natAbs < 2 ^ 60) (h0 : 0 ≤ k) (h1 : k ≤ 10000) : F_power_of [.int p, .int k] = .ok (.int (p ^ k.toNat)) := by
  show (D_power_of [.val (.int p), .val (.int k), .un, .un]).res = _
  simp only [D_power_of, bSeq_eq, sSet_eq, eC_eq, st_ok, then_next, List.set_cons_succ, List.set_cons_zero, sFor_eq, iR_eq, aCons_eq, aNil_eq, eVo0, eVos, bind1]
  rw [rng1_sm (by omega) (by omega)]
  obtain ⟨ρ', e1, s, rfl⟩ := forL_rng (tgt := gN 3) (body := bSeq (sAug 2 mulP (eVo 0)) bNil) (fun j ρ => ∃ s, ρ = [.val (.int p), .val (.int k), .val (.int (p ^ j)), s]) 0 k.toNat [.val (.int p), .val (.int k), .val (.int 1), .un] ⟨.un, by simp⟩ (fun j ρ hj ⟨s, e⟩ => by
    subst e
    have hm : mulP (.int (p ^ j)) (.int p) = .ok (.int (p ^ j * p)) := mulP_ii (okMul_of (pow_bound hp j) hp (by omega) (by omega) (by omega))
    refine ⟨_, .inl ?_, .val (.int (0 + j)), rfl⟩
    rw [Int.pow_succ]
    simp [turnL, hm])
  rw [stL_ok, e1]
  simp
theorem f_exponent (p m : Int) (hp : 2 ≤ p) (hp2 : p < 2 ^ 8000) (hm : m % p ≠ 0) (k : Nat) : F_exponent [.int p, .int (m * p ^ k)] = .ok (.int k) := by
  have turn : ∀ k : Nat, divmodP [.int (m * p ^ k), .int p] = .ok (.tup [.int (m * p ^ k / p), .int (m * p ^ k % p)]) := fun k => divmodP_pos (by omega) (by omega)
  have up : ∀ k : Nat, m * p ^ (k + 1) / p = m * p ^ k ∧ m * p ^ (k + 1) % p = 0 := fun k => by
    rw [Int.pow_succ, ← Int.mul_assoc]
    exact ⟨Int.mul_ediv_cancel _ (by omega), Int.mul_emod_left _ _⟩
  have run : ∀ (j : Nat) (c : Int) (a : PV), sWh (tB1 (e2 eqP (eVo 4) (eC (.int 0)))) (bSeq (sAug 2 (intP (fun _ _ => true) fun a b => .int (a + b)) (eC (.int 1))) (bSeq (sTo (gT (gsCons (gN 3) (gsCons (gN 4) gsNil))) (eD divmodP (aCons (eVo 3) (aCons (eVo 0) aNil)))) bNil))
      [.val (.int p), .val a, .val (.int c), .val (.int (m * p ^ j / p)), .val (.int (m * p ^ j % p))] = .next [.val (.int p), .val a, .val (.int (c + j)), .val (.int (m / p)), .val (.int (m % p))] := by
    intro j
    induction j with
    | zero =>
      intro c a
      have hm' : (m % p == 0) = false := by simpa using hm
      rw [sWh_eq]
      simp [hm']
    | succ j ih =>
      intro c a
      rw [sWh_eq, (up j).1, (up j).2]
      simp [turn, ih]
      omega
  show (D_exponent [.val (.int p), .val (.int (m * p ^ k)), .un, .un, .un]).res = _
  simp [D_exponent, turn, run]
end PM
set_option Elab.async false
set_option linter.all false
set_option maxRecDepth 100000
set_option autoImplicit false
namespace PM
open PySem PySem.Spec L2 PL
open PyProof.Rows hiding St
theorem isi_lt (p : PV) : isiP2 "list" "tuple" p = .ok (.bl (isL p || isT p)) := by
  have e1 : kitB "NoneType" "list" = some false := by decide +kernel
  have e2 : kitB "bool" "list" = some false := by decide +kernel
  have e3 : kitB "int" "list" = some false := by decide +kernel
  have e4 : kitB "str" "list" = some false := by decide +kernel
  have e5 : kitB "tuple" "list" = some false := by decide +kernel
  have e6 : kitB "list" "list" = some true := by decide +kernel
  have e7 : kitB "dict" "list" = some false := by decide +kernel
  have d1 : kitB "NoneType" "tuple" = some false := by decide +kernel
  have d2 : kitB "bool" "tuple" = some false := by decide +kernel
  have d3 : kitB "int" "tuple" = some false := by decide +kernel
  have d4 : kitB "str" "tuple" = some false := by decide +kernel
  have d5 : kitB "tuple" "tuple" = some true := by decide +kernel
  have d6 : kitB "list" "tuple" = some false := by decide +kernel
  have d7 : kitB "dict" "tuple" = some false := by decide +kernel
  cases p <;> simp [isiP2, tyN, e1, e2, e3, e4, e5, e6, e7, d1, d2, d3, d4, d5, d6, d7, isL, isT]
def R.own (r : R (List PV)) (ρ : Rho) (i : Nat) : Out := match r with
  | .ok qs => .next (ρ.set i (.own qs))
  | _ => .stuck
@[simp] theorem own_ok {qs : List PV} {ρ : Rho} {i : Nat} : R.own (.ok qs) ρ i = .next (ρ.set i (.own qs)) := nr rfl
def getOwn (ρ : Rho) (i : Nat) : Option (List PV) := match ρ[i]? with
  | some (.own ps) => some ps
  | _ => none
@[simp] theorem getOwn0 {ps : List PV} {ρ : Rho} : getOwn (.own ps :: ρ) 0 = some ps := nr rfl
@[simp] theorem getOwnS {s : Slot} {ρ : Rho} {i : Nat} : getOwn (s :: ρ) (i + 1) = getOwn ρ i := by simp [getOwn]
def onOwn (o : Option (List PV)) (k : List PV → Out) : Out := match o with
  | some ps => k ps
  | none => .stuck
@[simp] theorem onOwn_some {ps : List PV} {k : List PV → Out} : onOwn (some ps) k = k ps := nr rfl
@[simp] theorem sMut_eq {i : Nat} {g : List PV → PV → R (List PV)} {f : Rho → R PV} {ρ : Rho} : sMut i g f ρ = onOwn (getOwn ρ i) fun ps => (f ρ).st ρ fun p => R.own (g ps p) ρ i := by
  unfold sMut getOwn
  cases ρ[i]? with
  | none => rfl
  | some t => cases t <;> rfl
def asL : PV → R (List PV)
  | .lst l => .ok l
  | _ => .stuck
@[simp] theorem asL_l {l : List PV} : asL (.lst l) = .ok l := nr rfl
@[simp] theorem sSetO_eq {i : Nat} {f : Rho → R PV} {ρ : Rho} : sSetO i f ρ = (f ρ).st ρ fun p => R.own (asL p) ρ i := by
  unfold sSetO sE R.st R.own asL
  cases f ρ with
  | ok p => cases p <;> rfl
  | exc c => rfl
  | stuck => rfl
@[simp] theorem sRetO_eq {i : Nat} {ρ : Rho} : sRetO i ρ = onOwn (getOwn ρ i) fun ps => .ret (.lst ps) := by
  unfold sRetO getOwn
  cases ρ[i]? with
  | none => rfl
  | some t => cases t <;> rfl
def frzR (ρ : Rho) (i : Nat) : Rho := match ρ[i]? with
  | some (.own ps) => ρ.set i (.val (.lst ps))
  | _ => ρ
@[simp] theorem frzR0 {ps : List PV} {ρ : Rho} : frzR (.own ps :: ρ) 0 = .val (.lst ps) :: ρ := nr rfl
@[simp] theorem frzR0v {p : PV} {ρ : Rho} : frzR (.val p :: ρ) 0 = .val p :: ρ := nr rfl
@[simp] theorem frzR0u {ρ : Rho} : frzR (.un :: ρ) 0 = .un :: ρ := nr rfl
@[simp] theorem frzRS {s : Slot} {ρ : Rho} {i : Nat} : frzR (s :: ρ) (i + 1) = s :: frzR ρ i := by
  unfold frzR
  rw [List.getElem?_cons_succ]
  cases ρ[i]? with
  | none => rfl
  | some t => cases t <;> rfl
@[simp] theorem sFrz_eq {i : Nat} {g : Rho → Out} {ρ : Rho} : sFrz i g ρ = g (frzR ρ i) := by
  unfold sFrz frzR
  cases ρ[i]? with
  | none => rfl
  | some t => cases t <;> rfl
theorem appP_ok {l : List PV} {p : PV} (h : l.length < 1000000) : appP l p = .ok (l ++ [p]) := by
  unfold appP
  rw [if_pos (Nat.lt_of_lt_of_le h (size_ok (Nat.le_refl _)))]
@[simp] theorem sSetI_eq {i : Nat} {f fi : Rho → R PV} {ρ : Rho} : sSetI i f fi ρ = onOwn (getOwn ρ i) fun ps => (f ρ).st ρ fun p => (fi ρ).st ρ fun q => R.own (setP ps p q) ρ i := by
  unfold sSetI getOwn
  cases ρ[i]? with
  | none => rfl
  | some t => cases t <;> rfl
def Out.fo (o : Out) (k : Rho → Out) : Out := match o with
  | .next ρ => k ρ
  | .cont ρ => k ρ
  | .brk ρ => .next ρ
  | o => o
@[simp] theorem fo_next {ρ : Rho} {k : Rho → Out} : Out.fo (.next ρ) k = k ρ := nr rfl
@[simp] theorem fo_cont {ρ : Rho} {k : Rho → Out} : Out.fo (.cont ρ) k = k ρ := nr rfl
@[simp] theorem fo_brk {ρ : Rho} {k : Rho → Out} : Out.fo (.brk ρ) k = .next ρ := nr rfl
@[simp] theorem fo_ret {p : PV} {k : Rho → Out} : Out.fo (.ret p) k = .ret p := nr rfl
@[simp] theorem fo_exc {c : Str} {ρ : Rho} {k : Rho → Out} : Out.fo (.exc c ρ) k = .exc c ρ := nr rfl
@[simp] theorem forL_nil {tgt : PV → Rho → Option Rho} {body : Rho → Out} {ρ : Rho} : forL tgt body [] ρ = .next ρ := nr rfl
def onR (o : Option Rho) (k : Rho → Out) : Out := match o with
  | some ρ => k ρ
  | none => .stuck
@[simp] theorem onR_some {ρ : Rho} {k : Rho → Out} : onR (some ρ) k = k ρ := nr rfl
theorem forL_cons {tgt : PV → Rho → Option Rho} {body : Rho → Out} {p : PV} {ps : List PV} {ρ : Rho} : forL tgt body (p :: ps) ρ = onR (tgt p ρ) fun ρ1 => Out.fo (body ρ1) (forL tgt body ps) := by
  show (match tgt p ρ with | none => Out.stuck | some ρ1 => match body ρ1 with | .next ρ' => forL tgt body ps ρ' | .cont ρ' => forL tgt body ps ρ' | .brk ρ' => .next ρ' | o => o) = _
  unfold onR Out.fo
  cases tgt p ρ with
  | none => rfl
  | some ρ1 => cases body ρ1 <;> rfl
theorem cut_map {α β : Type} (f : α → β) (l : List α) (lo hi : Option Int) : cutG (l.map f) lo hi = (cutG l lo hi).map f := by
  unfold cutG
  rw [List.length_map, List.map_take, List.map_drop]
theorem cut_len {α : Type} (l : List α) (lo hi : Option Int) : (cutG l lo hi).length ≤ l.length := by
  unfold cutG
  rw [List.length_take, List.length_drop]
  omega
theorem cut_mem {α : Type} (l : List α) (lo hi : Option Int) : ∀ a ∈ cutG l lo hi, a ∈ l := fun a h => by
  unfold cutG at h
  exact (List.drop_sublist _ _).subset ((List.take_sublist _ _).subset h)
theorem sIx_none (n k : Nat) : HT.sIx n k none = k := rfl
theorem cut_drop {α : Type} (l : List α) (k : Int) (h : 0 ≤ k) : cutG l (some k) none = l.drop k.toNat := by
  unfold cutG
  have e : HT.sIx l.length 0 (some k) = min k.toNat l.length := by
    unfold HT.sIx; dsimp only; rw [if_neg (by omega)]
  rw [e, sIx_none]
  rw [List.take_of_length_le (by rw [List.length_drop]; omega)]
  by_cases h2 : k.toNat ≤ l.length
  · rw [Nat.min_eq_left h2]
  · rw [Nat.min_eq_right (by omega), List.drop_eq_nil_of_le (Nat.le_refl _), List.drop_eq_nil_of_le (by omega)]
theorem cut_take {α : Type} (l : List α) (k : Int) (h : 0 ≤ k) : cutG l none (some k) = l.take k.toNat := by
  unfold cutG
  have e : HT.sIx l.length l.length (some k) = min k.toNat l.length := by
    unfold HT.sIx; dsimp only; rw [if_neg (by omega)]
  rw [e, sIx_none, List.drop_zero, Nat.sub_zero]
  by_cases h2 : k.toNat ≤ l.length
  · rw [Nat.min_eq_left h2]
  · rw [Nat.min_eq_right (by omega), List.take_of_length_le (Nat.le_refl _), List.take_of_length_le (by omega)]
theorem cut_both {α : Type} (l : List α) (j k : Int) (h : 0 ≤ j) (hk : j ≤ k) : cutG l (some j) (some k) = (l.drop j.toNat).take (k.toNat - j.toNat) := by
  unfold cutG
  have e : HT.sIx l.length l.length (some k) = min k.toNat l.length := by
    unfold HT.sIx; dsimp only; rw [if_neg (by omega)]
  have e2 : HT.sIx l.length 0 (some j) = min j.toNat l.length := by
    unfold HT.sIx; dsimp only; rw [if_neg (by omega)]
  rw [e, e2]
  by_cases h2 : j.toNat ≤ l.length
  · rw [Nat.min_eq_left h2]
    by_cases h3 : k.toNat ≤ l.length
    · rw [Nat.min_eq_left h3]
    · rw [Nat.min_eq_right (by omega), List.take_of_length_le (by rw [List.length_drop]; omega), List.take_of_length_le (by rw [List.length_drop]; omega)]
  · rw [Nat.min_eq_right (by omega : l.length ≤ j.toNat), List.drop_eq_nil_of_le (Nat.le_refl _), List.drop_eq_nil_of_le (by omega), List.take_nil, List.take_nil]
@[simp] theorem eSl_eq {g : PV → Option Int → Option Int → R PV} {f : Rho → R PV} {lo hi : Rho → R (Option Int)} {ρ : Rho} : eSl g f lo hi ρ = (f ρ).bind fun p => (lo ρ).bind fun l => (hi ρ).bind fun h => g p l h := nr rfl
@[simp] theorem oNone_eq {ρ : Rho} : oNone ρ = .ok none := nr rfl
@[simp] theorem oSome_eq {f : Rho → R PV} {ρ : Rho} : oSome f ρ = (f ρ).bind fun p => (asI p).bind fun i => .ok (some i) := nr rfl
@[simp] theorem slP_l {l : List PV} {lo hi : Option Int} : slP (.lst l) lo hi = .ok (.lst (cutG l lo hi)) := nr rfl
@[simp] theorem slP_f {l : List PV} {lo hi : Option Int} : slP (.frz l) lo hi = .ok (.lst (cutG l lo hi)) := nr rfl
@[simp] theorem slP_t {l : List PV} {lo hi : Option Int} : slP (.tup l) lo hi = .ok (.tup (cutG l lo hi)) := nr rfl
@[simp] theorem slL_l {l : List PV} {lo hi : Option Int} : slL (.lst l) lo hi = .ok (.lst (cutG l lo hi)) := nr rfl
@[simp] theorem tupleP_l {l : List PV} : tupleP [.lst l] = .ok (.tup l) := nr rfl
@[simp] theorem tupleP_t {l : List PV} : tupleP [.tup l] = .ok (.tup l) := nr rfl
@[simp] theorem tupleP_f {l : List PV} : tupleP [.frz l] = .ok (.tup l) := nr rfl
@[simp] theorem listP_l {l : List PV} : listP [.lst l] = .ok (.lst l) := nr rfl
@[simp] theorem listP_t {l : List PV} : listP [.tup l] = .ok (.lst l) := nr rfl
theorem addP_ok {a b : List PV} (h : a.length + b.length ≤ 1000000) : addP (.lst a) (.lst b) = .ok (.lst (a ++ b)) := by
  unfold addP; dsimp only; rw [if_pos (size_ok h)]
def figOk (p : Int) : PV → Bool
  | .int n => decide (0 ≤ n) && decide (n < p)
  | _ => false
theorem figs_map (p : Int) (l : List PV) (x s : PV) : lcGo (gN 2) cYes (eAn (eD F_is_whole (aCons (eV 2) aNil)) (eChain leP ltP (eC (.int 0)) (eVo 2) (eVo 0))) [.val (.int p), .val x, .un] l = .ok ((l.map (figOk p)).map PV.bl) := by
  rw [List.map_map]
  refine lcGo_map (fun q => PV.bl (figOk p q)) l fun q hq => ⟨_, rfl, ?_⟩
  cases q with
  | int n =>
    by_cases h : 0 ≤ n <;> simp [f_is_whole, figOk, h]
  | _ => simp [f_is_whole, figOk, isW]
theorem all_map (p : Int) (l : List PV) : (l.map (figOk p)).all id = l.all (figOk p) := by rw [List.all_map]; rfl
theorem f_are_l (p : Int) (l : List PV) (h : l.length ≤ 1000000) : F_are_figures [.int p, .lst l] = .ok (.bl (l.all (figOk p))) := by
  show (D_are_figures [.val (.int p), .val (.lst l), .un]).res = _
  have e := eLc_ok (vs := [2]) (it := iS (eV 1)) (ρ := [.val (.int p), .val (.lst l), .un]) rfl (by simp) h (figs_map p l (.lst l) .non)
  simp only [D_are_figures, bSeq_eq, sIf_eq, tNt_eq, tB1_eq, e1_eq, eVos, eVo0, bind1, isi_lt, isL, Bool.true_or, asB_eq, Bool.not_true, stB_ok, bNil_eq, if_neg Bool.false_ne_true, then_next, sRet_eq, eD_eq, aCons_eq, aNil_eq, e, allP_bl, all_map, st_ok, then_ret, res_ret]
theorem f_are_t (p : Int) (l : List PV) (h : l.length ≤ 1000000) : F_are_figures [.int p, .tup l] = .ok (.bl (l.all (figOk p))) := by
  show (D_are_figures [.val (.int p), .val (.tup l), .un]).res = _
  have e := eLc_ok (vs := [2]) (it := iS (eV 1)) (ρ := [.val (.int p), .val (.tup l), .un]) rfl (by simp) h (figs_map p l (.tup l) .non)
  simp only [D_are_figures, bSeq_eq, sIf_eq, tNt_eq, tB1_eq, e1_eq, eVos, eVo0, bind1, isi_lt, isL, isT, Bool.or_true, asB_eq, Bool.not_true, stB_ok, bNil_eq, if_neg Bool.false_ne_true, then_next, sRet_eq, eD_eq, aCons_eq, aNil_eq, e, allP_bl, all_map, st_ok, then_ret, res_ret]
theorem figs_all (p : Int) (ds : List Int) (h : ∀ d ∈ ds, 0 ≤ d ∧ d < p) : (ds.map PV.int).all (figOk p) = true := by
  rw [List.all_map, List.all_eq_true]
  intro d hd
  simp [figOk, h d hd]
def leftV (p e : Int) (ds : List Int) : PV := .tup [.int p, .int e, .tup (ds.map PV.int)]
def lead (ds : List Int) : Nat := (ds.takeWhile (· == 0)).length
def strip (ds : List Int) : List Int := ds.dropWhile (· == 0)
theorem strip_drop (ds : List Int) : ds.drop (lead ds) = strip ds := by
  unfold lead strip
  induction ds with
  | nil => rfl
  | cons d ds ih =>
    by_cases h : d = 0
    · subst h; simp [ih]
    · have : (d == 0) = false := by simpa using h
      simp [this]
theorem lead_le (ds : List Int) : lead ds ≤ ds.length := by
  unfold lead
  induction ds with
  | nil => simp
  | cons d ds ih => by_cases h : d = 0 <;> simp_all
theorem lead_zero (ds : List Int) : ∀ k, k < lead ds → ds.getD k 0 = 0 := by
  unfold lead
  induction ds with
  | nil => intro k h; simp at h
  | cons d ds ih =>
    intro k h
    by_cases hd : d = 0
    · subst hd
      cases k with
      | zero => rfl
      | succ k =>
        have := ih k (by simpa using h)
        simpa using this
    · have : (d == 0) = false := by simpa using hd
      simp [this] at h
theorem lead_ne (ds : List Int) (h : lead ds < ds.length) : ds.getD (lead ds) 0 ≠ 0 := by
  unfold lead at *
  induction ds with
  | nil => simp at h
  | cons d ds ih =>
    by_cases hd : d = 0
    · subst hd
      have := ih (by simpa using h)
      simpa using this
    · have h2 : (d == 0) = false := by simpa using hd
      simpa [h2] using hd
theorem strip_head (ds : List Int) : ∀ d r, strip ds = d :: r → d ≠ 0 := by
  unfold strip
  induction ds with
  | nil => intro d r h; simp at h
  | cons x xs ih =>
    intro d r h
    by_cases hx : x = 0
    · subst hx; exact ih d r (by simpa using h)
    · have h2 : (x == 0) = false := by simpa using hx
      simp [h2] at h
      rw [← h.1]; exact hx
theorem strip_mem (ds : List Int) : ∀ d ∈ strip ds, d ∈ ds := fun d h => (List.dropWhile_sublist _).subset h
theorem strip_len (ds : List Int) : (strip ds).length = ds.length - lead ds := by rw [← strip_drop, List.length_drop]
/-- the items of a written list or tuple of numbers -/
def SeqI (x : PV) (ds : List Int) : Prop := x = .lst (ds.map PV.int) ∨ x = .tup (ds.map PV.int)
theorem SeqI.ix {x : PV} {ds : List Int} (h : SeqI x ds) (k : Nat) (hk : k < ds.length) : ixP x (.int k) = .ok (.int (ds.getD k 0)) := by
  rcases h with rfl | rfl
  · exact ixP_lst (by omega) (getD_map ds _ (by omega))
  · exact ixP_tup (by omega) (getD_map ds _ (by omega))
theorem SeqI.len {x : PV} {ds : List Int} (h : SeqI x ds) : lenP [x] = .ok (.int ds.length) := by
  rcases h with rfl | rfl <;> simp
theorem SeqI.are {x : PV} {ds : List Int} (h : SeqI x ds) (p : Int) (hz : ds.length ≤ 1000000) (hd : ∀ d ∈ ds, 0 ≤ d ∧ d < p) : F_are_figures [.int p, x] = .ok (.bl true) := by
  rcases h with rfl | rfl
  · rw [f_are_l p _ (by simpa using hz), figs_all p ds hd]
  · rw [f_are_t p _ (by simpa using hz), figs_all p ds hd]
theorem SeqI.tail {x : PV} {ds : List Int} (h : SeqI x ds) (k : Nat) : ((slP x (some k) none).bind fun y => tupleP [y]) = .ok (.tup ((ds.drop k).map PV.int)) := by
  rcases h with rfl | rfl <;> simp [cut_drop]
theorem lead_run (p e : Int) (x : PV) (ds : List Int) (h : SeqI x ds) : ∀ (j k : Nat), k + j = lead ds →
    sWh (tAn (tB1 (e2 ltP (eVo 3) (eD lenP (aCons (eVo 2) aNil)))) (tB1 (e2 eqP (e2 ixP (eVo 2) (eVo 3)) (eC (.int 0))))) (bSeq (sAug 3 (intP (fun _ _ => true) fun a b => .int (a + b)) (eC (.int 1))) bNil) [.val (.int p), .val (.int e), .val x, .val (.int k)] = .next [.val (.int p), .val (.int e), .val x, .val (.int (lead ds))] := by
  intro j
  have hl := lead_le ds
  induction j with
  | zero =>
    intro k hk
    have hk' : k = lead ds := by omega
    subst hk'
    rw [sWh_eq]
    by_cases h2 : lead ds < ds.length
    · have e1 := h.ix _ h2
      have e2 : (ds.getD (lead ds) 0 == 0) = false := by simpa using lead_ne ds h2
      simp [h.len, h2, e1, -List.getD_eq_getElem?_getD, e2]
    · simp [h.len, h2]
  | succ j ih =>
    intro k hk
    rw [sWh_eq]
    have h2 : k < ds.length := by omega
    have e1 := h.ix _ h2
    rw [lead_zero ds k (by omega)] at e1
    have ih' := ih (k + 1) (by omega)
    simp [h.len, h2, e1]
    exact ih'
theorem f_left (p e : Int) (x : PV) (ds : List Int) (hp : p ∈ primesL) (h : SeqI x ds) (hz : ds.length ≤ 1000000) (hd : ∀ d ∈ ds, 0 ≤ d ∧ d < p) : F_left_number [.int p, .int e, x] = .ok (leftV p (e + lead ds) (strip ds)) := by
  show (D_left_number [.val (.int p), .val (.int e), .val x, .un]).res = _
  have hp' : isP (.int p) = true := by simp [isP, hp]
  have r := lead_run p e x ds h (lead ds) 0 (by omega)
  rw [show ((0 : Nat) : Int) = 0 from rfl] at r
  have t := h.tail (lead ds)
  rw [strip_drop] at t
  rcases h with rfl | rfl
  · simp only [slP_l, bind1] at t
    simp [D_left_number, f_is_prime, hp', f_is_whole, SeqI.are (.inl rfl) p hz hd, r, leftV, t]
  · simp only [slP_t, bind1] at t
    simp [D_left_number, f_is_prime, hp', f_is_whole, SeqI.are (.inr rfl) p hz hd, r, leftV, t]
theorem f_end (p e : Int) (ds : List Int) : F_end_of [leftV p e ds] = .ok (.int (e + ds.length)) := by
  show (D_end_of [.val (leftV p e ds)]).res = _
  simp [D_end_of, leftV]
theorem f_known (p e : Int) (ds : List Int) : F_known_of [leftV p e ds] = .ok (.int ds.length) := by
  show (D_known_of [.val (leftV p e ds)]).res = _
  simp [D_known_of, leftV]
@[simp] theorem eqP_tt0 : eqP (.tup []) (.tup []) = .ok (.bl true) := by rw [eqP_ok (by simp) (by simp)]; simp
end PM
set_option Elab.async false
set_option linter.all false
set_option maxRecDepth 100000
set_option autoImplicit false
namespace PM
open PySem PySem.Spec L2 PL
open PyProof.Rows hiding St
@[simp] theorem sPar_eq {i j : Nat} {f g : Rho → R PV} {ρ : Rho} : sPar i j (aCons f (aCons g aNil)) ρ = (f ρ).st ρ fun p => (g ρ).st ρ fun q => .next ((ρ.set i (.val p)).set j (.val q)) := by
  unfold sPar aCons R.st
  cases f ρ with
  | exc c => rfl
  | stuck => rfl
  | ok p => cases g ρ <;> rfl
@[simp] theorem absP_i {a : Int} : absP [.int a] = .ok (.int a.natAbs) := by
  have e : absP [.int a] = .ok (.int (if a < 0 then -a else a)) := rfl
  rw [e]
  congr 2
  split <;> omega
/-- Euclid's loop, on whichever test of the other one -/
theorem gcd_run (test : Rho → R Bool) (ht : ∀ x y : Nat, test [.val (.int x), .val (.int y)] = .ok (decide (y ≠ 0))) : ∀ (y x : Nat),
    sWh test (bSeq (sPar 0 1 (aCons (eV 1) (aCons (e2 modP (eVo 0) (eVo 1)) aNil))) bNil) [.val (.int x), .val (.int y)] = .next [.val (.int (Nat.gcd x y)), .val (.int 0)] := by
  intro y
  induction y using Nat.strongRecOn with
  | _ y ih =>
    intro x
    rw [sWh_eq, ht]
    by_cases h : y = 0
    · subst h; simp
    · have hy : (0 : Int) < y := by omega
      have i := ih (x % y) (Nat.mod_lt x (by omega)) y
      have e : ((x : Int) % (y : Int)) = ((x % y : Nat) : Int) := by omega
      have g : Nat.gcd y (x % y) = Nat.gcd x y := by rw [Nat.gcd_comm x y, Nat.gcd_rec y x, Nat.gcd_comm (x % y) y]
      rw [g, ← e] at i
      simp [h, modP_pos hy, i]
theorem f_divisor (a b : Int) : F_divisor [.int a, .int b] = .ok (.int (Int.gcd a b)) := by
  show (D_divisor [.val (.int a), .val (.int b)]).res = _
  have r := gcd_run (tB1 (e2 gtP (eVo 1) (eC (.int 0)))) (fun x y => by
    have q : decide ((0 : Int) < (y : Int)) = decide (y ≠ 0) := by rw [decide_eq_decide]; omega
    simp only [tB1_eq, e2_eq, eVos, eVo0, eC_eq, bind1, gtP_ii, asB_eq, q]) b.natAbs a.natAbs
  simp only [D_divisor, bSeq_eq, sSet_eq, eD_eq, aCons_eq, aNil_eq, eVo0, eVos, bind1, absP_i, st_ok, then_next, List.set_cons_succ, List.set_cons_zero, r, sRet_eq, eV0, then_ret, res_ret]
  rfl
/-- the sign and the share -/
def fs (t b : Int) : Int := if b < 0 then -(Int.gcd t b : Int) else (Int.gcd t b : Int)
def ftop (t b : Int) : Int := t / fs t b
def fbot (t b : Int) : Int := b / fs t b
def fracV (t b : Int) : PV := .tup [.int t, .int b]
theorem gcd_pos {t b : Int} (hb : b ≠ 0) : 0 < Int.gcd t b := Int.gcd_pos_of_ne_zero_right t hb
theorem fs_dvd_t (t b : Int) : fs t b ∣ t := by
  unfold fs
  split
  · exact Int.neg_dvd.mpr (Int.gcd_dvd_left t b)
  · exact Int.gcd_dvd_left t b
theorem fs_dvd_b (t b : Int) : fs t b ∣ b := by
  unfold fs
  split
  · exact Int.neg_dvd.mpr (Int.gcd_dvd_right t b)
  · exact Int.gcd_dvd_right t b
theorem fs_ne {t b : Int} (hb : b ≠ 0) : fs t b ≠ 0 := by
  have := gcd_pos (t := t) hb
  unfold fs
  split <;> omega
theorem ftop_mul (t b : Int) : ftop t b * fs t b = t := Int.ediv_mul_cancel (fs_dvd_t t b)
theorem fbot_mul (t b : Int) : fbot t b * fs t b = b := Int.ediv_mul_cancel (fs_dvd_b t b)
theorem fbot_pos {t b : Int} (hb : b ≠ 0) : 0 < fbot t b := by
  have h := fbot_mul t b
  have hg := gcd_pos (t := t) hb
  rcases Int.lt_trichotomy (fbot t b) 0 with n | z | p
  · exfalso
    unfold fs at h
    split at h
    · have := Int.mul_pos_of_neg_of_neg n (show -(Int.gcd t b : Int) < 0 by omega)
      omega
    · have := Int.mul_neg_of_neg_of_pos n (show (0 : Int) < (Int.gcd t b : Int) by omega)
      omega
  · rw [z, Int.zero_mul] at h; exact absurd h.symm hb
  · exact p
theorem fcross (t b : Int) : ftop t b * b = t * fbot t b := by
  have h1 := ftop_mul t b
  have h2 := fbot_mul t b
  calc ftop t b * b = ftop t b * (fbot t b * fs t b) := by rw [h2]
    _ = (ftop t b * fs t b) * fbot t b := by rw [Int.mul_comm (fbot t b), Int.mul_assoc]
    _ = t * fbot t b := by rw [h1]
theorem flow {t b : Int} (hb : b ≠ 0) : Int.gcd (ftop t b) (fbot t b) = 1 := by
  have h1 := ftop_mul t b
  have h2 := fbot_mul t b
  have hg := gcd_pos (t := t) hb
  have e : Int.gcd (ftop t b * fs t b) (fbot t b * fs t b) = Int.gcd (ftop t b) (fbot t b) * (fs t b).natAbs := Int.gcd_mul_right ..
  rw [h1, h2] at e
  have e2 : (fs t b).natAbs = Int.gcd t b := by unfold fs; split <;> omega
  rw [e2] at e
  have : 1 * Int.gcd t b = Int.gcd (ftop t b) (fbot t b) * Int.gcd t b := by rw [Nat.one_mul]; exact e
  exact (Nat.eq_of_mul_eq_mul_right hg this).symm
theorem ftop_zero {t b : Int} (hb : b ≠ 0) : ftop t b = 0 ↔ t = 0 := by
  have h1 := ftop_mul t b
  constructor
  · intro h; rw [h, Int.zero_mul] at h1; exact h1.symm
  · intro h
    rw [h] at h1 ⊢
    rcases Int.mul_eq_zero.mp h1 with z | z
    · exact z
    · exact absurd z (fs_ne hb)
theorem f_fraction (t b : Int) (hb : b ≠ 0) (hz : b.natAbs < 2 ^ 8000) : F_fraction [.int t, .int b] = .ok (fracV (ftop t b) (fbot t b)) := by
  refine (runF_eq (n := 3) (u := D_fraction)).trans ?_
  show (D_fraction [.val (.int t), .val (.int b), .un]).res = _
  have hg := gcd_pos (t := t) hb
  have hle : Int.gcd t b ≤ b.natAbs := Nat.le_of_dvd (by omega) (Int.gcd_dvd_natAbs_right t b)
  have hb' : (b == 0) = false := by simpa using hb
  have hzs : (fs t b).natAbs < 2 ^ 9000 := by
    have : (2 : Nat) ^ 8000 ≤ 2 ^ 9000 := Nat.pow_le_pow_right (by omega) (by omega)
    unfold fs; split <;> omega
  have d1 : fdivP (.int t) (.int (fs t b)) = .ok (.int (ftop t b)) := by
    rw [fdivP_ii (fs_ne hb) hzs, Int.fdiv_eq_ediv_of_dvd (fs_dvd_t t b)]; rfl
  have d2 : fdivP (.int b) (.int (fs t b)) = .ok (.int (fbot t b)) := by
    rw [fdivP_ii (fs_ne hb) hzs, Int.fdiv_eq_ediv_of_dvd (fs_dvd_b t b)]; rfl
  by_cases h : b < 0
  · have e : fs t b = -(Int.gcd t b : Int) := by unfold fs; rw [if_pos h]
    rw [e] at d1 d2
    simp [D_fraction, f_is_whole, hb', f_divisor, h, d1, d2, fracV]
  · have e : fs t b = (Int.gcd t b : Int) := by unfold fs; rw [if_neg h]
    rw [e] at d1 d2
    simp [D_fraction, f_is_whole, hb', f_divisor, h, d1, d2, fracV]
/-- sizes -/
theorem mul_sz {a b : Int} (ha : a.natAbs < 2 ^ 3900) (hb : b.natAbs < 2 ^ 3900) : mulP (.int a) (.int b) = .ok (.int (a * b)) := mulP_ii (okMul_of ha hb (by omega) (by omega) (by omega))
theorem mul_lt {a b : Int} {m n : Nat} (ha : a.natAbs < 2 ^ m) (hb : b.natAbs < 2 ^ n) {k : Nat} (hk : m + n ≤ k) : (a * b).natAbs < 2 ^ k := Nat.lt_of_lt_of_le (mul_bound ha hb) (Nat.pow_le_pow_right (by omega) hk)
theorem sz_le {a : Int} {m k : Nat} (ha : a.natAbs < 2 ^ m) (hk : m ≤ k) : a.natAbs < 2 ^ k := Nat.lt_of_lt_of_le ha (Nat.pow_le_pow_right (by omega) hk)
theorem mul_ne {b d : Int} (hb : b ≠ 0) (hd : d ≠ 0) : b * d ≠ 0 := Int.mul_ne_zero hb hd
section
variable {a b c d : Int} (ha : a.natAbs < 2 ^ 3900) (hb : b.natAbs < 2 ^ 3900) (hc : c.natAbs < 2 ^ 3900) (hd : d.natAbs < 2 ^ 3900)
include ha hb hc hd
theorem f_minus (nb : b ≠ 0) (nd : d ≠ 0) : F_minus_fraction [fracV a b, fracV c d] = .ok (fracV (ftop (a * d - c * b) (b * d)) (fbot (a * d - c * b) (b * d))) := by
  refine (runF_eq (n := 2) (u := D_minus_fraction)).trans ?_
  show (D_minus_fraction [.val (fracV a b), .val (fracV c d)]).res = _
  have f := f_fraction (a * d - c * b) (b * d) (mul_ne nb nd) (mul_lt hb hd (by omega))
  simp [D_minus_fraction, fracV, mul_sz ha hd, mul_sz hc hb, mul_sz hb hd] at f ⊢
  simp [f]
end
theorem val_ex (p : Int) (hp : 2 ≤ p) : ∀ (k : Nat) (n : Int), n.natAbs ≤ k → n ≠ 0 → ∃ (m : Int) (v : Nat), n = m * p ^ v ∧ m % p ≠ 0 := by
  intro k
  induction k with
  | zero => intro n h h0; omega
  | succ k ih =>
    intro n h h0
    by_cases hd : n % p = 0
    · have e : n / p * p = n := Int.ediv_mul_cancel (Int.dvd_of_emod_eq_zero hd)
      have hn : n / p ≠ 0 := fun z => by rw [z, Int.zero_mul] at e; exact h0 e.symm
      have hlt : (n / p).natAbs < n.natAbs := by
        have : n.natAbs = (n / p).natAbs * p.natAbs := by rw [← Int.natAbs_mul, e]
        have h1 : 0 < (n / p).natAbs := by omega
        have h2 : 2 ≤ p.natAbs := by omega
        have := Nat.mul_le_mul_left (n / p).natAbs h2
        omega
      obtain ⟨m, v, e2, hm⟩ := ih (n / p) (by omega) hn
      refine ⟨m, v + 1, ?_, hm⟩
      rw [Int.pow_succ, ← Int.mul_assoc, ← e2, e]
    · exact ⟨n, 0, by simp, hd⟩
/-- how often p divides n -/
noncomputable def vp (p n : Int) : Int := if h : 2 ≤ p ∧ n ≠ 0 then ((val_ex p h.1 n.natAbs n (Nat.le_refl _) h.2).choose_spec.choose : Nat) else 0
theorem vp_spec {p n : Int} (hp : 2 ≤ p) (hn : n ≠ 0) : ∃ (m : Int) (v : Nat), n = m * p ^ v ∧ m % p ≠ 0 ∧ vp p n = v := by
  have h : 2 ≤ p ∧ n ≠ 0 := ⟨hp, hn⟩
  have s := (val_ex p h.1 n.natAbs n (Nat.le_refl _) h.2).choose_spec.choose_spec
  exact ⟨_, _, s.1, s.2, by unfold vp; rw [dif_pos h]⟩
theorem f_exp {p n : Int} (hp : 2 ≤ p) (hp2 : p < 2 ^ 8000) (hn : n ≠ 0) : F_exponent [.int p, .int n] = .ok (.int (vp p n)) := by
  obtain ⟨m, v, e, hm, hv⟩ := vp_spec hp hn
  rw [hv]
  conv => lhs; rw [e]
  exact f_exponent p m hp hp2 hm v
theorem vp_uniq {p m n : Int} {u v : Nat} (hp : 2 ≤ p) (e : m * p ^ u = n * p ^ v) (hm : m % p ≠ 0) (hn : n % p ≠ 0) : u = v := by
  have key : ∀ {m n : Int} {u v : Nat}, m * p ^ u = n * p ^ v → m % p ≠ 0 → n % p ≠ 0 → u ≤ v := fun {m n u v} e hm hn => by
    refine Nat.le_of_not_lt fun h => hn ?_
    obtain ⟨k, rfl⟩ : ∃ k, u = v + (k + 1) := ⟨u - v - 1, by omega⟩
    rw [Int.pow_add, Int.mul_comm (p ^ v), ← Int.mul_assoc] at e
    have hpv : p ^ v ≠ 0 := Int.pow_ne_zero (by omega)
    have e2 := Int.eq_of_mul_eq_mul_right hpv e
    rw [← e2, Int.pow_succ, ← Int.mul_assoc]
    exact Int.mul_emod_left _ _
  exact Nat.le_antisymm (key e hm hn) (key e.symm hn hm)
theorem f_exponent_of {p a b : Int} (hp : 2 ≤ p) (hp2 : p < 2 ^ 8000) (ha : a ≠ 0) (hb : b ≠ 0) : F_exponent_of [.int p, fracV a b] = .ok (.int (vp p a - vp p b)) := by
  refine (runF_eq (n := 2) (u := D_exponent_of)).trans ?_
  show (D_exponent_of [.val (.int p), .val (fracV a b)]).res = _
  simp [D_exponent_of, fracV, f_exp hp hp2 ha, f_exp hp hp2 hb]
theorem f_alike {p a b c d e : Int} (hp : 2 ≤ p) (hp2 : p < 2 ^ 8000) (ha : a.natAbs < 2 ^ 3900) (hb : b.natAbs < 2 ^ 3900) (hc : c.natAbs < 2 ^ 3900) (hd : d.natAbs < 2 ^ 3900) (nb : b ≠ 0) (nd : d ≠ 0) :
    F_alike [.int p, fracV a b, fracV c d, .int e] = .ok (.bl (decide (a * d - c * b = 0) || decide (e ≤ vp p (ftop (a * d - c * b) (b * d)) - vp p (fbot (a * d - c * b) (b * d))))) := by
  refine (runF_eq (n := 5) (u := D_alike)).trans ?_
  show (D_alike [.val (.int p), .val (fracV a b), .val (fracV c d), .val (.int e), .un]).res = _
  have f := f_minus ha hb hc hd nb nd
  have nbd := mul_ne nb nd
  by_cases h : a * d - c * b = 0
  · have z := (ftop_zero nbd).mpr h
    rw [h] at z f
    simp [D_alike, f, fracV, z, h] at f ⊢
    simp [f, z]
  · have z : ftop (a * d - c * b) (b * d) ≠ 0 := fun z => h ((ftop_zero nbd).mp z)
    have x := f_exponent_of hp hp2 z (Int.ne_of_gt (fbot_pos (t := a * d - c * b) nbd))
    have z' : (ftop (a * d - c * b) (b * d) == 0) = false := by simpa using z
    simp [D_alike, f, fracV, h] at f x ⊢
    simp [f, x, z]
end PM
namespace PM
theorem ftop_le {t b : Int} (hb : b ≠ 0) : (ftop t b).natAbs ≤ t.natAbs := by
  have h := congrArg Int.natAbs (ftop_mul t b)
  rw [Int.natAbs_mul] at h
  have : 1 ≤ (fs t b).natAbs := by have := fs_ne (t := t) hb; omega
  calc (ftop t b).natAbs = (ftop t b).natAbs * 1 := (Nat.mul_one _).symm
    _ ≤ (ftop t b).natAbs * (fs t b).natAbs := Nat.mul_le_mul_left _ this
    _ = t.natAbs := h
theorem fbot_le {t b : Int} (hb : b ≠ 0) : (fbot t b).natAbs ≤ b.natAbs := by
  have h := congrArg Int.natAbs (fbot_mul t b)
  rw [Int.natAbs_mul] at h
  have : 1 ≤ (fs t b).natAbs := by have := fs_ne (t := t) hb; omega
  calc (fbot t b).natAbs = (fbot t b).natAbs * 1 := (Nat.mul_one _).symm
    _ ≤ (fbot t b).natAbs * (fs t b).natAbs := Nat.mul_le_mul_left _ this
    _ = b.natAbs := h
end PM
namespace PM
open PySem PySem.Spec L2 PL
open PyProof.Rows hiding St
theorem stp {i : Nat} {f : Rho → R PV} {k : Rho → Out} {ρ : Rho} (p : PV) {r : R PV} (h : f ρ = .ok p) (g : (k (ρ.set i (.val p))).res = r) : (bSeq (sSet i f) k ρ).res = r := by
  rw [bSeq_eq, sSet_eq, h, st_ok, then_next]; exact g
theorem skp {t : Rho → R Bool} {u k : Rho → Out} {ρ : Rho} {r : R PV} (h : t ρ = .ok false) (g : (k ρ).res = r) : (bSeq (sIf t u bNil) k ρ).res = r := by
  rw [bSeq_eq, sIf_eq, h, stB_ok, if_neg Bool.false_ne_true, bNil_eq, then_next]; exact g
theorem ifT {t : Rho → R Bool} {u v k : Rho → Out} {ρ : Rho} {r : R PV} (h : t ρ = .ok true) (g : (bSeq u k ρ).res = r) : (bSeq (sIf t u v) k ρ).res = r := by
  rw [bSeq_eq, sIf_eq, h, stB_ok, if_pos rfl]; exact g
end PM
namespace PM
open PySem PySem.Spec L2 PL
open PyProof.Rows hiding St
@[simp] theorem isX0 {a : Addr} {b : Bool} {ρ : Rho} : isX 0 a b (.ex a :: ρ) = .ok (.bl b) := by
  have e : isX 0 a b (.ex a :: ρ) = (if a = a then .ok (.bl b) else .stuck) := rfl
  rw [e, if_pos rfl]
@[simp] theorem isXs {i : Nat} {a : Addr} {b : Bool} {s : Slot} {ρ : Rho} : isX (i + 1) a b (s :: ρ) = isX i a b ρ := by simp [isX]
@[simp] theorem hotCs {i : Nat} {a : Addr} {F : Addr → R PV} {s : Slot} {ρ : Rho} : hotC (i + 1) a F (s :: ρ) = hotC i a F ρ := by simp [hotC]
@[simp] theorem behind_next {i : Nat} {ρ : Rho} : behindX i (.next ρ) = .next (ρ.set i .un) := nr rfl
@[simp] theorem behind_ret {i : Nat} {p : PV} : behindX i (.ret p) = .ret p := nr rfl
end PM
set_option Elab.async false
set_option linter.all false
set_option maxRecDepth 100000
set_option autoImplicit false
set_option exponentiation.threshold 20000
namespace PM
open PySem PySem.Spec L2 PL
open PyProof.Rows hiding St
def Dg (p : Int) (ds : List Int) : Prop := ∀ d ∈ ds, 0 ≤ d ∧ d < p
def U (p : Int) : List Int → Int
  | [] => 0
  | d :: r => U p r * p + d
theorem Dg.tail {p d : Int} {r : List Int} (h : Dg p (d :: r)) : Dg p r := fun x hx => h x (List.mem_cons_of_mem _ hx)
theorem U_nonneg {p : Int} (hp : 2 ≤ p) : ∀ {ds : List Int}, Dg p ds → 0 ≤ U p ds ∧ U p ds < p ^ ds.length
  | [], _ => by simp [U]
  | d :: r, h => by
    obtain ⟨h1, h2⟩ := U_nonneg hp h.tail
    obtain ⟨h3, h4⟩ := h d List.mem_cons_self
    rw [List.length_cons, Int.pow_succ]
    unfold U
    have h5 : 0 ≤ U p r * p := Int.mul_nonneg h1 (by omega)
    have h6 : (U p r + 1) * p ≤ p ^ r.length * p := Int.mul_le_mul_of_nonneg_right (by omega) (by omega)
    rw [Int.add_mul] at h6
    omega
theorem pow_sz {p : Int} (hp : 2 ≤ p) (hp2 : p ≤ 97) (n : Nat) : (p ^ n).natAbs < 2 ^ (7 * n + 1) := pow_bound (m := 7) (by omega) n
theorem lt_sz {x : Int} {n : Nat} {p : Int} (hp : 2 ≤ p) (hp2 : p ≤ 97) (h0 : 0 ≤ x) (h : x < p ^ n) : x.natAbs < 2 ^ (7 * n + 1) := by
  have := pow_sz hp hp2 n
  omega
theorem unit_run (p : Int) (hp : 2 ≤ p) (hp2 : p ≤ 97) (x : PV) (hx : ixP x (.int 0) = .ok (.int p)) : ∀ (l : List Int) (acc : Int) (s : Slot) (j : Nat), Dg p l → 0 ≤ acc → acc < p ^ j → j + l.length ≤ 2000 →
    ∃ s', forL (gN 2) (bSeq (sSet 1 (e2 addP (e2 mulP (eVo 1) (e2 ixP (eVo 0) (eC (.int 0)))) (eVo 2))) bNil) (l.map PV.int) [.val x, .val (.int acc), s] = .next [.val x, .val (.int (l.foldl (fun a d => a * p + d) acc)), s'] := by
  intro l
  induction l with
  | nil => intro acc s j _ _ _ _; exact ⟨s, rfl⟩
  | cons d r ih =>
    intro acc s j hd h0 h1 hl
    rw [List.length_cons] at hl
    obtain ⟨h3, h4⟩ := hd d List.mem_cons_self
    have m : mulP (.int acc) (.int p) = .ok (.int (acc * p)) := mulP_ii (okMul_of (m := 7 * j + 1) (n := 7) (lt_sz hp hp2 h0 h1) (by omega) (by omega) (by omega) (by omega))
    have h5 : 0 ≤ acc * p := Int.mul_nonneg h0 (by omega)
    have h6 : (acc + 1) * p ≤ p ^ j * p := Int.mul_le_mul_of_nonneg_right (by omega) (by omega)
    rw [Int.add_mul] at h6
    obtain ⟨s', e⟩ := ih (acc * p + d) (.val (.int d)) (j + 1) hd.tail (by omega) (by rw [Int.pow_succ]; omega) (by omega)
    refine ⟨s', ?_⟩
    rw [List.map_cons, forL_cons]
    simp [hx, m, e]
theorem foldl_U (p : Int) (ds : List Int) : ds.reverse.foldl (fun a d => a * p + d) 0 = U p ds := by
  rw [List.foldl_reverse]
  induction ds with
  | nil => rfl
  | cons d r ih => rw [List.foldr_cons, ih]; rfl
theorem f_unit (p e : Int) (ds : List Int) (hp : 2 ≤ p) (hp2 : p ≤ 97) (hd : Dg p ds) (hl : ds.length ≤ 1900) : F_unit_of [leftV p e ds] = .ok (.int (U p ds)) := by
  refine (runF_eq (n := 3) (u := D_unit_of)).trans ?_
  show (D_unit_of [.val (leftV p e ds), .un, .un]).res = _
  obtain ⟨s', r⟩ := unit_run p hp hp2 (leftV p e ds) (by simp [leftV]) ds.reverse 0 .un 0 (fun d h => hd d (List.mem_reverse.mp h)) (by omega) (by simp) (by simp; omega)
  rw [foldl_U, List.map_reverse] at r
  have e2 : ixP (leftV p e ds) (.int 2) = .ok (.tup (ds.map PV.int)) := by simp [leftV]
  simp [D_unit_of, e2, r]
def digs (p : Int) : Int → Nat → List Int
  | _, 0 => []
  | n, k + 1 => (n % p) :: digs p (n / p) k
theorem digs_len (p : Int) : ∀ (k : Nat) (n : Int), (digs p n k).length = k
  | 0, _ => rfl
  | k + 1, n => by unfold digs; rw [List.length_cons, digs_len p k]
theorem digs_Dg {p : Int} (hp : 2 ≤ p) : ∀ (k : Nat) (n : Int), Dg p (digs p n k)
  | 0, _ => fun _ h => nomatch h
  | k + 1, n => fun d h => by
    unfold digs at h
    rcases List.mem_cons.mp h with rfl | h
    · exact ⟨Int.emod_nonneg _ (by omega), Int.emod_lt_of_pos _ (by omega)⟩
    · exact digs_Dg hp k _ d h
theorem U_digs {p : Int} (hp : 2 ≤ p) : ∀ (k : Nat) (n : Int), U p (digs p n k) = n % p ^ k
  | 0, n => by simp [digs, U]
  | k + 1, n => by
    unfold digs U
    rw [U_digs hp k]
    have h1 : n % p + p * (n / p) = n := by have := Int.mul_ediv_add_emod n p; omega
    have h2 : n / p % p ^ k + p ^ k * (n / p / p ^ k) = n / p := by have := Int.mul_ediv_add_emod (n / p) (p ^ k); omega
    have hpk : 0 < p ^ k := Int.pow_pos (by omega)
    have b1 := Int.emod_nonneg n (show p ≠ 0 by omega)
    have b2 := Int.emod_lt_of_pos n (show 0 < p by omega)
    have b3 := Int.emod_nonneg (n / p) (show p ^ k ≠ 0 by omega)
    have b4 := Int.emod_lt_of_pos (n / p) hpk
    obtain ⟨q, hq⟩ : ∃ q, q = n / p / p ^ k := ⟨_, rfl⟩
    obtain ⟨r, hr⟩ : ∃ r, r = n / p % p ^ k := ⟨_, rfl⟩
    rw [← hq, ← hr] at h2
    rw [← hr] at b3 b4 ⊢
    have e : n = (r * p + n % p) + p ^ (k + 1) * q := by
      rw [Int.pow_succ]
      have : p * (n / p) = p * r + p ^ k * p * q := by
        rw [← h2, Int.mul_add, ← Int.mul_assoc, Int.mul_comm p (p ^ k)]
      rw [Int.mul_comm r p]
      omega
    have b5 : 0 ≤ r * p := Int.mul_nonneg b3 (by omega)
    have b6 : (r + 1) * p ≤ p ^ k * p := Int.mul_le_mul_of_nonneg_right (by omega) (by omega)
    have ps : p ^ (k + 1) = p ^ k * p := Int.pow_succ p k
    rw [Int.add_mul, ← ps] at b6
    conv => rhs; rw [e, Int.add_mul_emod_self_left]
    exact (Int.emod_eq_of_lt (by omega) (by omega)).symm
theorem whole_run (p : Int) (hp : 2 ≤ p) (hp2 : p ≤ 97) (a1 a3 : PV) : ∀ (items : List PV) (n : Int) (figs : List Int) (s5 s6 : Slot), figs.length + items.length ≤ 5000 →
    ∃ n' s5' s6', forL (gN 5) (bSeq (sTo (gT (gsCons (gN 2) (gsCons (gN 6) gsNil))) (eD divmodP (aCons (eVo 2) (aCons (eVo 0) aNil)))) (bSeq (sMut 4 appP (eV 6)) bNil)) items [.val (.int p), .val a1, .val (.int n), .val a3, .own (figs.map PV.int), s5, s6] = .next [.val (.int p), .val a1, .val (.int n'), .val a3, .own ((figs ++ digs p n items.length).map PV.int), s5', s6'] := by
  intro items
  induction items with
  | nil => intro n figs s5 s6 _; exact ⟨n, s5, s6, by simp [digs]⟩
  | cons q qs ih =>
    intro n figs s5 s6 hl
    rw [List.length_cons] at hl
    have dm := divmodP_pos (a := n) (b := p) (by omega) (by omega)
    obtain ⟨n', s5', s6', e⟩ := ih (n / p) (figs ++ [n % p]) (.val q) (.val (.int (n % p))) (by rw [List.length_append, List.length_singleton]; omega)
    refine ⟨n', s5', s6', ?_⟩
    have ap : appP (figs.map PV.int) (.int (n % p)) = .ok ((figs ++ [n % p]).map PV.int) := by rw [appP_ok (by rw [List.length_map]; omega), List.map_append]; rfl
    rw [forL_cons, List.length_cons]
    simp only [gN_eq, onR_some, List.set_cons_succ, List.set_cons_zero, bSeq_eq, sTo_eq, eD_eq, aCons_eq, aNil_eq, eVo0, eVos, bind1, dm, st_ok, gT_eq, gsCons_eq, gsNil_eq, Option.bind_some, then_next, sMut_eq, getOwn0, getOwnS, onOwn_some, eV0, eVs, ap, own_ok, bNil_eq, fo_next, e]
    rw [show digs p n (qs.length + 1) = (n % p) :: digs p (n / p) qs.length from rfl, List.append_assoc, List.singleton_append]
theorem f_of_whole (p e n : Int) (k : Nat) (hp : p ∈ primesL) (hk : k ≤ 5000) : F_of_whole [.int p, .int e, .int n, .int k] = .ok (leftV p (e + lead (digs p n k)) (strip (digs p n k))) := by
  refine (runF_eq (n := 7) (u := D_of_whole)).trans ?_
  show (D_of_whole [.val (.int p), .val (.int e), .val (.int n), .val (.int k), .un, .un, .un]).res = _
  have hpb := primesL_le p hp
  have hr : rng1 [.int (k : Int)] = .ok (rngL 0 k) := by rw [rng1_sm (by omega) (by omega)]; rfl
  obtain ⟨n', s5, s6, r⟩ := whole_run p hpb.1 hpb.2 (.int e) (.int k) (rngL 0 k) n [] .un .un (by rw [rngL_len]; simp; omega)
  rw [rngL_len, List.nil_append] at r
  have l := f_left p e (.lst ((digs p n k).map PV.int)) (digs p n k) hp (.inl rfl) (by rw [digs_len]; omega) (digs_Dg hpb.1 k n)
  simp only [List.map_nil] at r
  simp [D_of_whole, hr, r, l]
theorem strip_head' (ds : List Int) : (strip ds).head? ≠ some 0 := by
  cases h : strip ds with
  | nil => simp
  | cons d r =>
    have := strip_head ds d r h
    simpa using this
theorem strip_Dg {p : Int} {ds : List Int} (h : Dg p ds) : Dg p (strip ds) := fun d hd => h d (strip_mem ds d hd)
/-- a left number in its form -/
structure Lf (p : Int) (ds : List Int) (n : Nat) : Prop where
  pr : p ∈ primesL
  dg : Dg p ds
  hd : ds.head? ≠ some 0
  len : ds.length ≤ n
theorem Lf.b {p : Int} {ds : List Int} {n : Nat} (h : Lf p ds n) : 2 ≤ p ∧ p ≤ 97 := primesL_le p h.pr
theorem lf_strip {p : Int} {ds : List Int} {n : Nat} (hp : p ∈ primesL) (hd : Dg p ds) (hl : ds.length ≤ n) : Lf p (strip ds) n := ⟨hp, strip_Dg hd, strip_head' ds, by rw [strip_len]; omega⟩
end PM
namespace PM
open PL
theorem log2_le_lt {a b m : Nat} (h : a ≤ b) (hb : b.log2 < m) : a.log2 < m := by
  by_cases h0 : a = 0
  · subst h0; rw [Nat.log2_zero]; omega
  · exact (Nat.log2_lt h0).mpr (Nat.lt_of_le_of_lt h ((Nat.log2_lt (by omega)).mp hb))
theorem okMul_log {a b : Int} {m n : Nat} (ha : a.natAbs.log2 < m) (hb : b.natAbs.log2 < n) (h : m + n ≤ 100000000) : okMul a b = true := decide_eq_true (by omega)
theorem nth_log (ns : List Int) (hb : ∀ z ∈ ns, z.natAbs.log2 < 1048577) (k : Int) : (nth ns k).natAbs.log2 < 1048577 := by
  unfold nth
  rw [List.getD_eq_getElem?_getD]
  cases h : ns[k.toNat]? with
  | none => simp
  | some z => exact hb z (List.mem_of_getElem? h)
end PM
namespace PM
open PySem PySem.Spec L2 PL
open PyProof.Rows hiding St
theorem U_cons (p d : Int) (r : List Int) : U p (d :: r) = U p r * p + d := rfl
end PM
namespace PM
open PySem PySem.Spec L2 PL
open PyProof.Rows hiding St
def opp (p : Int) (ds : List Int) : List Int := digs p (-U p ds) ds.length
end PM
set_option Elab.async false
set_option linter.all false
set_option maxRecDepth 100000
set_option autoImplicit false
set_option exponentiation.threshold 20000
namespace PM
open PySem PySem.Spec L2 PL
open PyProof.Rows hiding St
/-- alike but for multiples -/
def Mo (m x y : Int) : Prop := ∃ z, x = y + m * z
theorem Mo.refl (m x : Int) : Mo m x x := ⟨0, by simp⟩
theorem Mo.of_eq {m x y : Int} (h : x = y) : Mo m x y := h ▸ Mo.refl m x
theorem Mo.symm {m x y : Int} (h : Mo m x y) : Mo m y x := by obtain ⟨z, h⟩ := h; exact ⟨-z, by grind⟩
theorem Mo.trans {m x y w : Int} (h : Mo m x y) (g : Mo m y w) : Mo m x w := by
  obtain ⟨z, h⟩ := h; obtain ⟨u, g⟩ := g; exact ⟨z + u, by grind⟩
theorem Mo.add {m x y u v : Int} (h : Mo m x y) (g : Mo m u v) : Mo m (x + u) (y + v) := by
  obtain ⟨z, h⟩ := h; obtain ⟨w, g⟩ := g; exact ⟨z + w, by grind⟩
theorem Mo.sub {m x y u v : Int} (h : Mo m x y) (g : Mo m u v) : Mo m (x - u) (y - v) := by
  obtain ⟨z, h⟩ := h; obtain ⟨w, g⟩ := g; exact ⟨z - w, by grind⟩
theorem Mo.mul {m x y u v : Int} (h : Mo m x y) (g : Mo m u v) : Mo m (x * u) (y * v) := by
  obtain ⟨z, h⟩ := h; obtain ⟨w, g⟩ := g; exact ⟨y * w + z * v + m * z * w, by subst h g; grind⟩
theorem Mo.dvd {m k x y : Int} (h : Mo (m * k) x y) : Mo m x y := by
  obtain ⟨z, h⟩ := h; exact ⟨k * z, by rw [h, Int.mul_assoc]⟩
theorem Mo.scale {m x y : Int} (k : Int) (h : Mo m x y) : Mo (m * k) (x * k) (y * k) := by
  obtain ⟨z, h⟩ := h; exact ⟨z, by subst h; grind⟩
theorem pow_split (p : Int) {a b : Nat} (h : a ≤ b) : p ^ b = p ^ a * p ^ (b - a) := by rw [← Int.pow_add]; congr 1; omega
theorem Mo.low {p x y : Int} {a b : Nat} (h : Mo (p ^ b) x y) (hab : a ≤ b) : Mo (p ^ a) x y := by
  rw [pow_split p hab] at h; exact h.dvd
/-- the figures' sum over a base -/
def V (p b e : Int) (ds : List Int) : Int := U p ds * p ^ (e - b).toNat
theorem V_self (p e : Int) (ds : List Int) : V p e e ds = U p ds := by unfold V; rw [Int.sub_self]; simp
theorem V_shift (p : Int) {b c e : Int} (ds : List Int) (h : b ≤ c) (h2 : c ≤ e) : V p b e ds = V p c e ds * p ^ (c - b).toNat := by
  unfold V; rw [Int.mul_assoc, ← Int.pow_add]; congr 2; omega
theorem U_one (p d : Int) : U p [d] = d := by simp [U]
theorem U_head {p : Int} {ds : List Int} {n : Nat} (h : Lf p ds n) (hn : ds ≠ []) : U p ds % p ≠ 0 := by
  cases ds with
  | nil => exact absurd rfl hn
  | cons d r =>
    have hd : d ≠ 0 := by simpa using h.hd
    have b := h.dg d List.mem_cons_self
    rw [U_cons, Int.add_comm, Int.add_mul_emod_self_right, Int.emod_eq_of_lt b.1 b.2]
    exact hd
/-- one goes on where the other ends -/
structure Ext (p e' : Int) (ds' : List Int) (e : Int) (ds : List Int) : Prop where
  le : e ≤ e'
  en : e + ds.length ≤ e' + ds'.length
  mo : Mo (p ^ ds.length) (V p e e' ds') (U p ds)
theorem Ext.refl (p e : Int) (ds : List Int) : Ext p e ds e ds := ⟨Int.le_refl _, Int.le_refl _, by rw [V_self]; exact Mo.refl _ _⟩
theorem Ext.base {p e' e : Int} {ds' ds : List Int} (h : Ext p e' ds' e ds) {b : Int} (hb : b ≤ e) : Mo (p ^ (e + ds.length - b).toNat) (V p b e' ds') (V p b e ds) := by
  rw [V_shift p ds' hb h.le, V_shift p ds hb (Int.le_refl e), V_self, show (e + ds.length - b).toNat = ds.length + (e - b).toNat by omega, Int.pow_add]
  exact h.mo.scale _
end PM
namespace PM
open PySem PySem.Spec L2 PL
open PyProof.Rows hiding St
theorem prime_mul : ∀ p ∈ primesN, ∀ a : Nat, a < p → ∀ b : Nat, b < p → a ≠ 0 → b ≠ 0 → a * b % p ≠ 0 := by decide +kernel
theorem prime_mulI {p a b : Int} (hp : p ∈ primesL) (ha : a % p ≠ 0) (hb : b % p ≠ 0) : a * b % p ≠ 0 := by
  have hpb := primesL_le p hp
  rw [Int.mul_emod]
  have a1 := Int.emod_nonneg a (show p ≠ 0 by omega)
  have a2 := Int.emod_lt_of_pos a (show 0 < p by omega)
  have b1 := Int.emod_nonneg b (show p ≠ 0 by omega)
  have b2 := Int.emod_lt_of_pos b (show 0 < p by omega)
  have e2 : primesL = primesN.map fun (n : Nat) => (n : Int) := rfl
  rw [e2] at hp
  obtain ⟨n, hn, rfl⟩ := List.mem_map.mp hp
  obtain ⟨x, hx⟩ : ∃ x : Nat, a % (n : Int) = x := ⟨(a % (n : Int)).toNat, by omega⟩
  obtain ⟨y, hy⟩ : ∃ y : Nat, b % (n : Int) = y := ⟨(b % (n : Int)).toNat, by omega⟩
  rw [hx, hy]
  rw [hx] at ha a2
  rw [hy] at hb b2
  have := prime_mul n hn x (by omega) y (by omega) (by omega) (by omega)
  rw [← Int.natCast_mul, ← Int.natCast_emod]
  omega
end PM
namespace PM
open PySem PySem.Spec L2 PL
open PyProof.Rows hiding St
theorem Lf.le {p : Int} {ds : List Int} {n m : Nat} (h : Lf p ds n) (hm : n ≤ m) : Lf p ds m := ⟨h.pr, h.dg, h.hd, Nat.le_trans h.len hm⟩
theorem ixT (p e : Int) (ds : List Int) : ixP (leftV p e ds) (.int 0) = .ok (.int p) ∧ ixP (leftV p e ds) (.int 1) = .ok (.int e) ∧ ixP (leftV p e ds) (.int 2) = .ok (.tup (ds.map PV.int)) := by simp [leftV]
end PM
set_option Elab.async false
set_option linter.all false
set_option maxRecDepth 100000
set_option autoImplicit false
set_option exponentiation.threshold 20000
namespace PM
open PySem PySem.Spec L2 PL
open PyProof.Rows hiding St
theorem prime_cop : ∀ p ∈ primesN, ∀ a : Nat, a < p → a ≠ 0 → Nat.gcd a p = 1 := by decide +kernel
theorem gcd_mod (a w : Int) : Int.gcd (a % w) w = Int.gcd a w := by
  have e : a = a % w + w * (a / w) := by have := Int.mul_ediv_add_emod a w; omega
  conv => rhs; rw [e]
  rw [Int.gcd_add_mul_left_left]
theorem prime_gcd {p a : Int} (hp : p ∈ primesL) (ha : a % p ≠ 0) (k : Nat) : Int.gcd a (p ^ k) = 1 := by
  have hpb := primesL_le p hp
  have e2 : primesL = primesN.map fun (n : Nat) => (n : Int) := rfl
  rw [e2] at hp
  obtain ⟨n, hn, rfl⟩ := List.mem_map.mp hp
  obtain ⟨x, hx⟩ : ∃ x : Nat, a % (n : Int) = x := ⟨(a % (n : Int)).toNat, by have := Int.emod_nonneg a (show (n : Int) ≠ 0 by omega); omega⟩
  have hlt := Int.emod_lt_of_pos a (show 0 < (n : Int) by omega)
  rw [hx] at ha hlt
  have g := prime_cop n hn x (by omega) (by omega)
  have e : Int.gcd a (n : Int) = 1 := by
    have h1 : Int.gcd (a % (n : Int)) (n : Int) = Int.gcd a (n : Int) := gcd_mod _ _
    rw [← h1, hx]; exact g
  have e3 : Nat.Coprime a.natAbs (n ^ k) := Nat.Coprime.pow_right k e
  show Nat.gcd a.natAbs ((n : Int) ^ k).natAbs = 1
  rw [Int.natAbs_pow]; exact e3
theorem le_of_mul_le {a x w : Int} (hx : 0 < x) (ha : 0 ≤ a) (h : a * x ≤ w) : a ≤ w := by
  have := Int.mul_le_mul_of_nonneg_left (show 1 ≤ x by omega) ha
  omega
end PM
namespace PM
open PySem PySem.Spec L2 PL
open PyProof.Rows hiding St
/-- a slot set again under a condition -/
theorem stpW {i : Nat} {t : Rho → R Bool} {f : Rho → R PV} {k : Rho → Out} {ρ : Rho} {r : R PV} (b : Bool) (v old w : PV) (ht : t ρ = .ok b) (hf : b = true → f ρ = .ok v) (ho : ρ.set i (.val old) = ρ) (hw : w = if b = true then v else old) (g : (k (ρ.set i (.val w))).res = r) : (bSeq (sIf t (bSeq (sSet i f) bNil) bNil) k ρ).res = r := by
  rw [bSeq_eq, sIf_eq, ht, stB_ok]
  cases b with
  | true =>
    rw [if_pos rfl] at hw
    subst hw
    rw [if_pos rfl, bSeq_eq, sSet_eq, hf rfl, st_ok, then_next, bNil_eq, then_next]; exact g
  | false =>
    rw [if_neg Bool.false_ne_true] at hw
    subst hw
    rw [ho] at g
    rw [if_neg Bool.false_ne_true, bNil_eq, then_next]; exact g
theorem neTup' {ds : List Int} : neP (.tup (ds.map PV.int)) (.tup []) = .ok (.bl (!decide (ds = []))) := by
  cases ds with
  | nil => rw [neP_ok (by simp) (by simp)]; simp
  | cons d r => rw [neP_ok (by simp) (by simp)]; simp
theorem maxP_ok (a b : Int) : maxP [.int a, .int b] = .ok (.int (max a b)) := by
  have e : maxP [.int a, .int b] = .ok (.int (if b > a then b else a)) := rfl
  rw [e]; congr 2; split <;> omega
end PM
namespace PM
open PySem PySem.Spec L2 PL
open PyProof.Rows hiding St
end PM
set_option Elab.async false
set_option linter.all false
set_option maxRecDepth 100000
set_option autoImplicit false
set_option exponentiation.threshold 20000
namespace PM
open PySem PySem.Spec L2 PL
open PyProof.Rows hiding St
/-- two neighbours of the row of rests -/
structure Nb (W u z r s v w : Int) : Prop where
  cr : Mo W r (u * s)
  cv : Mo W v (u * w)
  sg : (0 < w ∧ s ≤ 0 ∧ r * w - v * s = W) ∨ (w < 0 ∧ 0 ≤ s ∧ r * w - v * s = -W)
  rz : z < r
  v0 : 0 ≤ v
  vr : v < r
  rW : r ≤ W
  sW : -W ≤ s ∧ s ≤ W
theorem Nb.wW {W u z r s v w : Int} (h : Nb W u z r s v w) (hz : 1 ≤ z) : -W ≤ w ∧ w ≤ W := by
  have hr := h.rz
  have v0 := h.v0
  have hW := h.rW
  rcases h.sg with ⟨h1, h2, h3⟩ | ⟨h1, h2, h3⟩
  · have : v * s ≤ 0 := Int.mul_nonpos_of_nonneg_of_nonpos v0 h2
    have := le_of_mul_le (a := w) (x := r) (w := W) (by omega) (by omega) (by rw [Int.mul_comm]; omega)
    omega
  · have e : 0 ≤ v * s := Int.mul_nonneg v0 h2
    have := le_of_mul_le (a := -w) (x := r) (w := W) (by omega) (by omega) (by rw [Int.neg_mul, Int.mul_comm]; omega)
    omega
theorem Nb.step {W u z r s v w : Int} (h : Nb W u z r s v w) (hz : 1 ≤ z) (hv : z < v) : Nb W u z v w (r % v) (s - r / v * w) := by
  have v0 := h.v0
  have vr := h.vr
  have rW := h.rW
  have ww := h.wW hz
  have q1 : 1 ≤ r / v := (Int.le_ediv_iff_mul_le (by omega)).mpr (by omega)
  have er : r / v * v + r % v = r := by have := Int.mul_ediv_add_emod r v; rw [Int.mul_comm] at this; exact this
  have m0 := Int.emod_nonneg r (show v ≠ 0 by omega)
  have m1 := Int.emod_lt_of_pos r (show 0 < v by omega)
  generalize r / v = q at *
  generalize r % v = m at *
  have det : v * (s - q * w) - m * w = -(r * w - v * s) := by rw [← er]; grind
  refine ⟨h.cv, ?_, ?_, hv, m0, m1, by omega, ww⟩
  · have t := h.cr.sub ((Mo.refl W q).mul h.cv)
    have e : r - q * v = m := by omega
    rw [e] at t
    exact t.trans (.of_eq (by grind))
  · rcases h.sg with ⟨h1, h2, h3⟩ | ⟨h1, h2, h3⟩
    · have : 1 * w ≤ q * w := Int.mul_le_mul_of_nonneg_right q1 (by omega)
      exact .inr ⟨by omega, by omega, by rw [det]; omega⟩
    · have : q * w ≤ 1 * w := Int.mul_le_mul_of_nonpos_right q1 (by omega)
      exact .inl ⟨by omega, by omega, by rw [det]; omega⟩
/-- where a fraction is put -/
def plT (p e t : Int) : Int := t * p ^ e.toNat
def plB (p e b : Int) : Int := b * p ^ (-e).toNat
end PM
set_option Elab.async false
set_option linter.all false
set_option maxRecDepth 100000
set_option autoImplicit false
set_option exponentiation.threshold 20000
namespace PM
open PySem PySem.Spec L2 PL
open PyProof.Rows hiding St
theorem dvd_cop {y x b : Int} (h : y ∣ x * b) (g : Int.gcd y x = 1) : y ∣ b := by
  have h1 : y.natAbs ∣ x.natAbs * b.natAbs := by rw [← Int.natAbs_mul]; exact Int.natAbs_dvd_natAbs.mpr h
  exact Int.natAbs_dvd_natAbs.mp (Nat.Coprime.dvd_of_dvd_mul_left (k := y.natAbs) g h1)
/-- lowest terms are only one -/
theorem low_uniq {T B t b : Int} (hB : B ≠ 0) (hb : 0 < b) (hg : Int.gcd t b = 1) (h : T * b = t * B) : ftop T B = t ∧ fbot T B = b := by
  have y0 := fbot_pos (t := T) hB
  have fl := flow (t := T) hB
  have cr := fcross T B
  generalize ftop T B = x at *
  generalize fbot T B = y at *
  have e : x * b = t * y := by
    have : B * (x * b) = B * (t * y) := by
      calc B * (x * b) = x * B * b := by grind
        _ = T * y * b := by rw [cr]
        _ = T * b * y := by grind
        _ = t * B * y := by rw [h]
        _ = B * (t * y) := by grind
    exact Int.eq_of_mul_eq_mul_left hB this
  have d1 : y ∣ b := dvd_cop (show y ∣ x * b from ⟨t, by rw [e, Int.mul_comm]⟩) (by rw [Int.gcd_comm]; exact fl)
  have d2 : b ∣ y := dvd_cop (show b ∣ t * y from ⟨x, by rw [← e, Int.mul_comm]⟩) (by rw [Int.gcd_comm]; exact hg)
  have yb : y = b := Int.le_antisymm (Int.le_of_dvd hb d1) (Int.le_of_dvd y0 d2)
  subst yb
  exact ⟨Int.eq_of_mul_eq_mul_right (by omega) e, rfl⟩
theorem inv_tab : ∀ p ∈ primesN, ∀ a : Nat, a < p → a ≠ 0 → ((List.range p).any fun j => a * j % p == 1) = true := by decide +kernel
theorem inv_ex {p b : Int} (hp : p ∈ primesL) (hb : b % p ≠ 0) : ∃ j : Nat, (j : Int) < p ∧ b * j % p = 1 := by
  have hpb := primesL_le p hp
  have e2 : primesL = primesN.map fun (n : Nat) => (n : Int) := rfl
  rw [e2] at hp
  obtain ⟨n, hn, rfl⟩ := List.mem_map.mp hp
  obtain ⟨x, hx⟩ : ∃ x : Nat, b % (n : Int) = x := ⟨(b % (n : Int)).toNat, by have := Int.emod_nonneg b (show (n : Int) ≠ 0 by omega); omega⟩
  have hlt := Int.emod_lt_of_pos b (show 0 < (n : Int) by omega)
  rw [hx] at hb hlt
  obtain ⟨j, h1, h2⟩ := List.any_eq_true.mp (inv_tab n hn x (by omega) (by omega))
  refine ⟨j, by have := List.mem_range.mp h1; omega, ?_⟩
  rw [Int.mul_emod, hx, Int.emod_eq_of_lt (a := (j : Int)) (by omega) (by have := List.mem_range.mp h1; omega), ← Int.natCast_mul, ← Int.natCast_emod]
  have := beq_iff_eq.mp h2
  omega
end PM
namespace PM
open PySem PySem.Spec L2 PL
open PyProof.Rows hiding St
theorem stpFor {it : Rho → R (List PV)} {tgt : PV → Rho → Option Rho} {body k : Rho → Out} {ρ : Rho} {r : R PV} (items : List PV) (ρ' : Rho) (hi : it ρ = .ok items) (hf : forL tgt body items ρ = .next ρ') (g : (k ρ').res = r) : (bSeq (sFor it tgt body) k ρ).res = r := by
  rw [bSeq_eq, sFor_eq, hi, stL_ok, hf, then_next]; exact g
end PM
set_option Elab.async false
set_option linter.all false
set_option maxRecDepth 100000
set_option autoImplicit false
set_option exponentiation.threshold 20000
namespace PM
open PySem PySem.Spec L2 PL
open PyProof.Rows hiding St
end PM
set_option Elab.async false
set_option linter.all false
set_option maxRecDepth 100000
set_option autoImplicit false
set_option exponentiation.threshold 20000
namespace PM
open PySem PySem.Spec L2 PL
open PyProof.Rows hiding St
end PM
set_option Elab.async false
set_option linter.all false
set_option maxRecDepth 100000
set_option autoImplicit false
set_option exponentiation.threshold 20000
namespace PM
/-- the sum in A ^ n - B ^ n = (A - B) .. -/
def Gm (A B : Int) : Nat → Int
  | 0 => 0
  | n + 1 => A ^ n + B * Gm A B n
theorem Gm_eq (A B : Int) : ∀ n : Nat, A ^ n = B ^ n + (A - B) * Gm A B n
  | 0 => by simp [Gm]
  | n + 1 => by
    have ih := Gm_eq A B n
    have e : Gm A B (n + 1) = A ^ n + B * Gm A B n := rfl
    rw [e, Int.pow_succ, Int.pow_succ]
    grind
theorem pow_two_up (B D : Int) : ∀ n : Nat, ∃ w, (B + D) ^ (n + 1) = B ^ (n + 1) + (n + 1) * D * B ^ n + D * D * w
  | 0 => ⟨0, by simp [Int.pow_succ]⟩
  | n + 1 => by
    obtain ⟨w, h⟩ := pow_two_up B D n
    refine ⟨(n + 1) * B ^ n + w * (B + D), ?_⟩
    rw [Int.pow_succ, h, Int.pow_succ B (n + 1), Int.pow_succ B n]
    have e : ((n + 1 : Nat) : Int) = (n : Int) + 1 := by omega
    rw [e]
    grind
/-- modulo its square, twice -/
theorem Gm_mod2 (B D : Int) : ∀ n : Nat, ∃ w, 2 * Gm (B + D) B (n + 2) = 2 * (n + 2) * B ^ (n + 1) + (n + 2) * (n + 1) * D * B ^ n + 2 * (D * D) * w
  | 0 => ⟨0, by simp [Gm]; grind⟩
  | n + 1 => by
    obtain ⟨w, h⟩ := Gm_mod2 B D n
    obtain ⟨v, g⟩ := pow_two_up B D (n + 1)
    refine ⟨v + B * w, ?_⟩
    have e : Gm (B + D) B (n + 1 + 2) = (B + D) ^ (n + 2) + B * Gm (B + D) B (n + 2) := rfl
    have e2 : ((n + 1 : Nat) : Int) = (n : Int) + 1 := by omega
    rw [e, Int.mul_add, g, e2]
    rw [e2] at g
    have h' : 2 * (B * Gm (B + D) B (n + 2)) = B * (2 * (n + 2) * B ^ (n + 1) + (n + 2) * (n + 1) * D * B ^ n + 2 * (D * D) * w) := by rw [← h]; grind
    rw [h', Int.pow_succ B (n + 1), Int.pow_succ B n]
    grind
theorem pow_ne {p B : Int} (hp : p ∈ primesL) (hB : B % p ≠ 0) : ∀ n : Nat, B ^ n % p ≠ 0
  | 0 => by
    have := primesL_le p hp
    rw [Int.pow_zero, Int.emod_eq_of_lt (by omega) (by omega)]; omega
  | n + 1 => by rw [Int.pow_succ]; exact prime_mulI hp (pow_ne hp hB n) hB
theorem ne_add {p a b : Int} (ha : a % p ≠ 0) : (a + p * b) % p ≠ 0 := by rw [Int.add_mul_emod_self_left]; exact ha
theorem step_p {p B z : Int} (hp : p ∈ primesL) (hB : B % p ≠ 0) (j : Nat) (hj : 1 ≤ j) (h2 : p = 2 → 2 ≤ j) : ∃ g, Gm (B + p ^ j * z) B p.toNat = p * g ∧ g % p ≠ 0 := by
  have hpb := primesL_le p hp
  by_cases h : p = 2
  · subst h
    obtain ⟨i, rfl⟩ : ∃ i, j = i + 2 := ⟨j - 2, by have := h2 rfl; omega⟩
    refine ⟨B + 2 * (2 ^ i * z), ?_, ne_add hB⟩
    have e : (2 : Int) ^ (i + 2) = 4 * 2 ^ i := by rw [Int.pow_succ, Int.pow_succ]; grind
    rw [e]
    show (B + 4 * 2 ^ i * z) ^ 1 + B * ((B + 4 * 2 ^ i * z) ^ 0 + B * 0) = _
    rw [Int.pow_zero, Int.pow_succ, Int.pow_zero]
    grind
  · obtain ⟨n, hn⟩ : ∃ n, p.toNat = n + 2 := ⟨p.toNat - 2, by omega⟩
    obtain ⟨i, rfl⟩ : ∃ i, j = i + 1 := ⟨j - 1, by omega⟩
    obtain ⟨d, hd⟩ : ∃ d, d = p ^ i * z := ⟨_, rfl⟩
    have eD : p ^ (i + 1) * z = p * d := by rw [hd, Int.pow_succ]; grind
    obtain ⟨w, hw⟩ := Gm_mod2 B (p * d) n
    have ep : (n : Int) + 2 = p := by omega
    rw [ep] at hw
    have e1 : 2 * Gm (B + p * d) B (n + 2) = p * (2 * B ^ (n + 1) + p * ((n + 1) * d * B ^ n + 2 * d * d * w)) := by rw [hw]; grind
    have c2 : (2 : Int) % p ≠ 0 := by rw [Int.emod_eq_of_lt (by omega) (by omega)]; omega
    have dv : p ∣ Gm (B + p * d) B (n + 2) := dvd_cop (x := 2) ⟨_, e1⟩ (by
      have := prime_gcd hp c2 1
      rw [Int.pow_one, Int.gcd_comm] at this
      exact this)
    obtain ⟨g, hg⟩ := dv
    refine ⟨g, by rw [eD, hn]; exact hg, fun k => ?_⟩
    have e2 : 2 * g = 2 * B ^ (n + 1) + p * ((n + 1) * d * B ^ n + 2 * d * d * w) := by
      have : p * (2 * g) = p * (2 * B ^ (n + 1) + p * ((n + 1) * d * B ^ n + 2 * d * d * w)) := by rw [← e1, hg]; grind
      exact Int.eq_of_mul_eq_mul_left (by omega) this
    have e3 := ne_add (p := p) (b := (n + 1) * d * B ^ n + 2 * d * d * w) (prime_mulI hp c2 (pow_ne hp hB (n + 1)))
    rw [← e2, Int.mul_emod, k, Int.mul_zero, Int.zero_emod] at e3
    exact e3 rfl
theorem lte_t {p B : Int} (hp : p ∈ primesL) (hB : B % p ≠ 0) (j : Nat) (y : Int) (hj : 1 ≤ j) (h2 : p = 2 → 2 ≤ j) : ∀ t : Nat, ∃ y', (B + p ^ j * y) ^ (p.toNat ^ t) = B ^ (p.toNat ^ t) + p ^ (j + t) * y' ∧ (y % p ≠ 0 → y' % p ≠ 0)
  | 0 => ⟨y, by simp [Int.pow_succ], fun h => h⟩
  | t + 1 => by
    obtain ⟨y', e, h⟩ := lte_t hp hB j y hj h2 t
    have hB1 := pow_ne hp hB (p.toNat ^ t)
    obtain ⟨g, g1, g2⟩ := step_p (z := y') hp hB1 (j + t) (by omega) (fun k => by have := h2 k; omega)
    have q := Gm_eq (B ^ (p.toNat ^ t) + p ^ (j + t) * y') (B ^ (p.toNat ^ t)) p.toNat
    refine ⟨y' * g, ?_, fun k => prime_mulI hp (h k) g2⟩
    rw [Nat.pow_succ, Int.pow_mul, Int.pow_mul, e, q, g1, show j + (t + 1) = j + t + 1 by omega, Int.pow_succ]
    grind
end PM
namespace PM
open PySem PySem.Spec L2 PL
open PyProof.Rows hiding St
end PM
set_option Elab.async false
set_option linter.all false
set_option maxRecDepth 100000
set_option autoImplicit false
set_option exponentiation.threshold 20000
namespace PM
open PySem PySem.Spec L2 PL
open PyProof.Rows hiding St
theorem low_same {P Q T B : Int} (hQ : Q ≠ 0) (hB : B ≠ 0) (h : P * B = T * Q) : ftop P Q = ftop T B ∧ fbot P Q = fbot T B := by
  refine low_uniq hQ (fbot_pos (t := T) hB) (flow (t := T) hB) ?_
  have c := fcross T B
  have e : (P * fbot T B) * B = (ftop T B * Q) * B := by
    calc (P * fbot T B) * B = (P * B) * fbot T B := by grind
      _ = T * fbot T B * Q := by rw [h]; grind
      _ = ftop T B * B * Q := by rw [c]
      _ = _ := by grind
  exact Int.eq_of_mul_eq_mul_right hB e
theorem vp_mul {p x y : Int} (hp : p ∈ primesL) (hx : x ≠ 0) (hy : y ≠ 0) : (vp p (x * y) : Int) = vp p x + vp p y := by
  have hpb := primesL_le p hp
  obtain ⟨m, u, e1, h1, k1⟩ := vp_spec (p := p) hpb.1 hx
  obtain ⟨n, v, e2, h2, k2⟩ := vp_spec (p := p) hpb.1 hy
  obtain ⟨r, w, e3, h3, k3⟩ := vp_spec (p := p) hpb.1 (Int.mul_ne_zero hx hy)
  have e : r * p ^ w = (m * n) * p ^ (u + v) := by rw [← e3, e1, e2, Int.pow_add]; grind
  have := vp_uniq hpb.1 e h3 (prime_mulI hp h1 h2)
  omega
theorem vp_frac {p X Y : Int} (hp : p ∈ primesL) (hX : X ≠ 0) (hY : Y ≠ 0) : (vp p (ftop X Y) : Int) - vp p (fbot X Y) = vp p X - vp p Y := by
  have t := ftop_mul X Y
  have b := fbot_mul X Y
  have f0 := fs_ne (t := X) hY
  have t0 : ftop X Y ≠ 0 := fun z => hX ((ftop_zero hY).mp z)
  have b0 : fbot X Y ≠ 0 := Int.ne_of_gt (fbot_pos (t := X) hY)
  have v1 := vp_mul hp t0 f0
  have v2 := vp_mul hp b0 f0
  rw [t] at v1
  rw [b] at v2
  omega
theorem f_alike2 {p T1 B1 T2 B2 e : Int} (hp : p ∈ primesL) (h1 : B1 ≠ 0) (h2 : B2 ≠ 0) (z1 : T1.natAbs < 2 ^ 3900) (z2 : B1.natAbs < 2 ^ 3900) (z3 : T2.natAbs < 2 ^ 3900) (z4 : B2.natAbs < 2 ^ 3900) :
    F_alike [.int p, fracV (ftop T1 B1) (fbot T1 B1), fracV (ftop T2 B2) (fbot T2 B2), .int e] = .ok (.bl (decide (T1 * B2 - T2 * B1 = 0) || decide (e ≤ vp p (T1 * B2 - T2 * B1) - vp p (B1 * B2)))) := by
  have hpb := primesL_le p hp
  have p0 : p < 2 ^ 8000 := by
    have : (2 : Int) ^ 7 ≤ 2 ^ 8000 := by rw [pow_split 2 (show 7 ≤ 8000 by omega)]; have : 0 < (2 : Int) ^ (8000 - 7) := Int.pow_pos (by omega); omega
    omega
  have b1 := Int.ne_of_gt (fbot_pos (t := T1) h1)
  have b2 := Int.ne_of_gt (fbot_pos (t := T2) h2)
  have A := f_alike (p := p) (a := ftop T1 B1) (b := fbot T1 B1) (c := ftop T2 B2) (d := fbot T2 B2) (e := e) hpb.1 p0 (Nat.lt_of_le_of_lt (ftop_le h1) z1) (Nat.lt_of_le_of_lt (fbot_le h1) z2) (Nat.lt_of_le_of_lt (ftop_le h2) z3) (Nat.lt_of_le_of_lt (fbot_le h2) z4) b1 b2
  rw [A]
  have c1 := fcross T1 B1
  have c2 := fcross T2 B2
  generalize ftop T1 B1 = a at *
  generalize fbot T1 B1 = b at *
  generalize ftop T2 B2 = c at *
  generalize fbot T2 B2 = d at *
  have cr : (a * d - c * b) * (B1 * B2) = (T1 * B2 - T2 * B1) * (b * d) := by
    calc (a * d - c * b) * (B1 * B2) = (a * B1) * d * B2 - (c * B2) * b * B1 := by grind
      _ = (T1 * b) * d * B2 - (T2 * d) * b * B1 := by rw [c1, c2]
      _ = _ := by grind
  have nY : b * d ≠ 0 := Int.mul_ne_zero b1 b2
  have nB : B1 * B2 ≠ 0 := Int.mul_ne_zero h1 h2
  by_cases z : T1 * B2 - T2 * B1 = 0
  · have zX : a * d - c * b = 0 := by
      rw [z, Int.zero_mul] at cr
      exact (Int.mul_eq_zero.mp cr).resolve_right nB
    rw [decide_eq_true zX, decide_eq_true z]; rfl
  · have zX : a * d - c * b ≠ 0 := fun q => by
      rw [q, Int.zero_mul] at cr
      exact (Int.mul_eq_zero.mp cr.symm).elim z nY
    rw [decide_eq_false zX, decide_eq_false z]
    have s := low_same nY nB cr
    rw [s.1, s.2, vp_frac hp z nB]
/-- alike over one base -/
theorem f_alike3 {p x1 y1 x2 y2 L e : Int} (hp : p ∈ primesL) (h1 : y1 % p ≠ 0) (h2 : y2 % p ≠ 0) (hL : -200 ≤ L ∧ L ≤ 200) (z1 : x1.natAbs < 2 ^ 2000) (z2 : y1.natAbs < 2 ^ 2000) (z3 : x2.natAbs < 2 ^ 2000) (z4 : y2.natAbs < 2 ^ 2000) :
    ∃ b, F_alike [.int p, fracV (ftop (plT p L x1) (plB p L y1)) (fbot (plT p L x1) (plB p L y1)), fracV (ftop (plT p L x2) (plB p L y2)) (fbot (plT p L x2) (plB p L y2)), .int e] = .ok (.bl b) ∧ (b = true ↔ Mo (p ^ (e - L).toNat) (x1 * y2) (x2 * y1)) := by
  have hpb := primesL_le p hp
  have n1 : y1 ≠ 0 := fun z => h1 (by rw [z]; exact Int.zero_emod p)
  have n2 : y2 ≠ 0 := fun z => h2 (by rw [z]; exact Int.zero_emod p)
  have pj : ∀ k : Nat, p ^ k ≠ 0 := fun k => Int.pow_ne_zero (by omega)
  have sz : ∀ (x : Int) (k : Nat), x.natAbs < 2 ^ 2000 → k ≤ 200 → (x * p ^ k).natAbs < 2 ^ 3900 := fun x k h hk => mul_lt h (pow_sz hpb.1 hpb.2 k) (by omega)
  refine ⟨_, f_alike2 hp (Int.mul_ne_zero n1 (pj _)) (Int.mul_ne_zero n2 (pj _)) (sz _ _ z1 (by omega)) (sz _ _ z2 (by omega)) (sz _ _ z3 (by omega)) (sz _ _ z4 (by omega)), ?_⟩
  unfold plT plB
  obtain ⟨i, hi⟩ : ∃ i, i = L.toNat := ⟨_, rfl⟩
  obtain ⟨j, hj⟩ : ∃ j, j = (-L).toNat := ⟨_, rfl⟩
  rw [← hi, ← hj]
  have ed : x1 * p ^ i * (y2 * p ^ j) - x2 * p ^ i * (y1 * p ^ j) = (x1 * y2 - x2 * y1) * p ^ (i + j) := by rw [Int.pow_add]; grind
  have eb : y1 * p ^ j * (y2 * p ^ j) = (y1 * y2) * p ^ (j + j) := by rw [Int.pow_add]; grind
  rw [ed, eb]
  by_cases z : x1 * y2 - x2 * y1 = 0
  · rw [z, Int.zero_mul]
    refine ⟨fun _ => .of_eq (by omega), fun _ => by simp⟩
  · have nz : (x1 * y2 - x2 * y1) * p ^ (i + j) ≠ 0 := Int.mul_ne_zero z (pj _)
    rw [decide_eq_false nz, Bool.false_or, decide_eq_true_eq]
    obtain ⟨m, v, e1, m1, k1⟩ := vp_spec (p := p) hpb.1 z
    obtain ⟨r, w, e2, m2, k2⟩ := vp_spec (p := p) hpb.1 nz
    obtain ⟨s, u, e3, m3, k3⟩ := vp_spec (p := p) hpb.1 (Int.mul_ne_zero (Int.mul_ne_zero n1 n2) (pj (j + j)))
    have q2 := vp_uniq (p := p) (m := r) (n := m) (u := w) (v := v + (i + j)) hpb.1 (by rw [← e2, e1, Int.pow_add, Int.pow_add]; grind) m2 m1
    have q3 := vp_uniq (p := p) (m := s) (n := y1 * y2) (u := u) (v := j + j) hpb.1 e3.symm m3 (prime_mulI hp h1 h2)
    rw [k2, k3]
    constructor
    · intro h
      have hv : (e - L).toNat ≤ v := by omega
      refine ⟨m * p ^ (v - (e - L).toNat), ?_⟩
      have := pow_split p hv
      calc x1 * y2 = x2 * y1 + (x1 * y2 - x2 * y1) := by omega
        _ = x2 * y1 + m * p ^ v := by rw [← e1]
        _ = _ := by rw [this]; grind
    · rintro ⟨q, hq⟩
      refine Int.not_lt.mp fun h => m1 ?_
      have hv : v + 1 ≤ (e - L).toNat := by omega
      have e4 : m * p ^ v = p ^ (e - L).toNat * q := by rw [← e1, hq]; omega
      rw [pow_split p hv, Int.pow_succ] at e4
      have e5 : m = p * (p ^ ((e - L).toNat - (v + 1)) * q) := Int.eq_of_mul_eq_mul_right (pj v) (by rw [e4]; grind)
      rw [e5]
      exact Int.mul_emod_right _ _
theorem f_amount (p e : Int) (ds : List Int) (n : Nat) (h : Lf p ds n) (hn : ds.length ≤ 250) (he : -200 ≤ e ∧ e ≤ 200) : F_amount_of [leftV p e ds] = .ok (fracV (ftop (plT p e (U p ds)) (plB p e 1)) (fbot (plT p e (U p ds)) (plB p e 1))) := by
  have hpb := h.b
  refine (runF_eq (n := 1) (u := D_amount_of)).trans ?_
  show (D_amount_of [.val (leftV p e ds)]).res = _
  obtain ⟨x0, x1, x2⟩ := ixT p e ds
  have un := U_nonneg hpb.1 h.dg
  have uz : (U p ds).natAbs < 2 ^ 1800 := sz_le (lt_sz hpb.1 hpb.2 un.1 un.2) (by omega)
  have u1 := f_unit p e ds hpb.1 hpb.2 h.dg (by omega)
  by_cases c : 0 ≤ e
  · have pw := f_power_of p e (by omega) (by omega) (by omega)
    have mm : mulP (.int (U p ds)) (.int (p ^ e.toNat)) = .ok (.int (U p ds * p ^ e.toNat)) := mulP_ii (okMul_of uz (pow_sz hpb.1 hpb.2 _) (by omega) (by omega) (by omega))
    have e0 : (-e).toNat = 0 := by omega
    have F := f_fraction (U p ds * p ^ e.toNat) 1 (by omega) (Nat.lt_of_lt_of_le (show (1 : Int).natAbs < 2 ^ 1 by decide) (Nat.pow_le_pow_right (by omega) (by omega)))
    unfold plT plB
    rw [e0, Int.pow_zero, Int.one_mul]
    simp [D_amount_of, x0, x1, c, u1, pw, mm, F]
  · have pw := f_power_of p (-e) (by omega) (by omega) (by omega)
    have e0 : e.toNat = 0 := by omega
    have F := f_fraction (U p ds) (p ^ (-e).toNat) (Int.pow_ne_zero (by omega)) (sz_le (pow_sz hpb.1 hpb.2 _) (by omega))
    unfold plT plB
    rw [e0, Int.pow_zero, Int.one_mul, Int.mul_one]
    simp [D_amount_of, x0, x1, c, u1, pw, F]
/-- when a fraction begins with a left number -/
theorem f_begins {p e L x y : Int} {ds : List Int} {n : Nat} (h : Lf p ds n) (hn : ds.length ≤ 160) (he : -200 ≤ e ∧ e ≤ 200) (hL : -200 ≤ L ∧ L ≤ e) (hd : e - L ≤ 120) (hy : y % p ≠ 0) (z1 : x.natAbs < 2 ^ 2000) (z2 : y.natAbs < 2 ^ 2000) :
    ∃ b, F_begins_fraction [leftV p e ds, fracV (ftop (plT p L x) (plB p L y)) (fbot (plT p L x) (plB p L y))] = .ok (.bl b) ∧ (b = true ↔ Mo (p ^ (e + ds.length - L).toNat) x (V p L e ds * y)) := by
  have hpb := h.b
  have un := U_nonneg hpb.1 h.dg
  have uz : (U p ds).natAbs < 2 ^ 1150 := sz_le (lt_sz hpb.1 hpb.2 un.1 un.2) (by omega)
  have pj : ∀ k : Nat, p ^ k ≠ 0 := fun k => Int.pow_ne_zero (by omega)
  have one : (1 : Int) % p ≠ 0 := by rw [Int.emod_eq_of_lt (by omega) (by omega)]; omega
  have vz : (V p L e ds).natAbs < 2 ^ 2000 := mul_lt uz (pow_sz hpb.1 hpb.2 _) (by omega)
  obtain ⟨b, A, hb⟩ := f_alike3 (p := p) (x1 := x) (y1 := y) (x2 := V p L e ds) (y2 := 1) (L := L) (e := e + ds.length) h.pr hy one (by omega) z1 z2 vz (Nat.lt_of_lt_of_le (show (1 : Int).natAbs < 2 ^ 1 by decide) (Nat.pow_le_pow_right (by omega) (by omega)))
  rw [Int.mul_one] at hb
  refine ⟨b, ?_, hb⟩
  have am := f_amount p e ds n h (by omega) he
  have s := low_same (P := plT p e (U p ds)) (Q := plB p e 1) (T := plT p L (V p L e ds)) (B := plB p L 1) (Int.mul_ne_zero (by omega) (pj _)) (Int.mul_ne_zero (by omega) (pj _)) (by
    unfold plT plB V
    have q : p ^ e.toNat * p ^ (-L).toNat = p ^ (e - L).toNat * p ^ L.toNat * p ^ (-e).toNat := by rw [← Int.pow_add, ← Int.pow_add, ← Int.pow_add]; congr 1; omega
    calc U p ds * p ^ e.toNat * (1 * p ^ (-L).toNat) = U p ds * (p ^ e.toNat * p ^ (-L).toNat) := by grind
      _ = U p ds * (p ^ (e - L).toNat * p ^ L.toNat * p ^ (-e).toNat) := by rw [q]
      _ = _ := by grind)
  rw [s.1, s.2] at am
  refine (runF_eq (n := 2) (u := D_begins_fraction)).trans ?_
  show (D_begins_fraction [.val (leftV p e ds), .val (fracV (ftop (plT p L x) (plB p L y)) (fbot (plT p L x) (plB p L y)))]).res = _
  obtain ⟨x0, x1, x2⟩ := ixT p e ds
  simp only [D_begins_fraction, bSeq_eq, sRet_eq, eD_eq, aCons_eq, aNil_eq, e2_eq, eV0, eVs, eVo0, eVos, eC_eq, bind1, x0, am, f_end, A, st_ok, then_ret, res_ret]
end PM
set_option Elab.async false
set_option linter.all false
set_option maxRecDepth 100000
set_option autoImplicit false
set_option exponentiation.threshold 20000
namespace PM
open PySem PySem.Spec L2 PL
open PyProof.Rows hiding St
theorem stpN {c k : Rho → Out} {ρ ρ' : Rho} {r : R PV} (h : c ρ = .next ρ') (g : (k ρ').res = r) : (bSeq c k ρ).res = r := by
  rw [bSeq_eq, h, then_next]; exact g
theorem rngL_step (a : Int) (m : Nat) : rngL a (m + 1) = .int a :: rngL (a + 1) m := by
  unfold rngL
  rw [List.range_succ_eq_map, List.map_cons, List.map_map]
  congr 1
  · simp
  · apply List.map_congr_left
    intro x _
    simp only [Function.comp]
    congr 1
    omega
end PM
set_option Elab.async false
set_option linter.all false
set_option maxRecDepth 100000
set_option autoImplicit false
set_option exponentiation.threshold 20000
namespace PM
open PySem PySem.Spec L2 PL
open PyProof.Rows hiding St
end PM
set_option Elab.async false
set_option linter.all false
set_option maxRecDepth 100000
set_option autoImplicit false
set_option exponentiation.threshold 20000
namespace PM
open PySem PySem.Spec L2 PL
open PyProof.Rows hiding St
def figI (e : Int) (ds : List Int) (q : Int) : Int := if q < e then 0 else ds.getD (q - e).toNat 0
/-- the least place below L at which both are unlike, if there is one -/
def PartedI (L e f : Int) (ds es : List Int) (r : PV) : Prop :=
  (r = .non ∧ ∀ q, q < L → figI e ds q = figI f es q) ∨
  (∃ q, q < L ∧ r = .int q ∧ figI e ds q ≠ figI f es q ∧ ∀ q', q' < q → figI e ds q' = figI f es q')
theorem PartedI.comm {L e f : Int} {ds es : List Int} {r : PV} (h : PartedI L e f ds es r) : PartedI L f e es ds r := by
  rcases h with ⟨rfl, h⟩ | ⟨q, h1, rfl, h2, h3⟩
  · exact .inl ⟨rfl, fun q z => (h q z).symm⟩
  · exact .inr ⟨q, h1, rfl, fun z => h2 z.symm, fun q z => (h3 q z).symm⟩
end PM
set_option Elab.async false
set_option linter.all false
set_option maxRecDepth 100000
set_option autoImplicit false
set_option exponentiation.threshold 20000
namespace PM
open PySem PySem.Spec L2 PL
open PyProof.Rows hiding St
@[simp] theorem sMut0_eq {i : Nat} {g : List PV → R (List PV)} {ρ : Rho} : sMut0 i g ρ = onOwn (getOwn ρ i) fun ps => R.own (g ps) ρ i := by
  unfold sMut0 getOwn
  cases ρ[i]? with
  | none => rfl
  | some t => cases t <;> rfl
@[simp] theorem clearP_eq {ps : List PV} : clearP ps = .ok [] := nr rfl
def onSome {α : Type} (o : Option α) (k : α → Out) : Out := match o with
  | some a => k a
  | none => .stuck
@[simp] theorem onSome_some {α : Type} {a : α} {k : α → Out} : onSome (some a) k = k a := nr rfl
@[simp] theorem sAugI_eq {i : Nat} {fi f : Rho → R PV} {ρ : Rho} : sAugI i fi f ρ = onOwn (getOwn ρ i) fun ps => (fi ρ).st ρ fun q => onSome (getN ps q) fun x => (f ρ).st ρ fun y => R.own (augN ps q x y) ρ i := by
  unfold sAugI getOwn
  cases ρ[i]? with
  | none => rfl
  | some t => cases t with
    | own ps =>
      dsimp only [onOwn, sE]
      cases fi ρ with
      | stuck => rfl
      | exc c => rfl
      | ok q =>
        dsimp only [R.st]
        cases getN ps q with
        | none => rfl
        | some x =>
          dsimp only [onSome, sE]
          cases f ρ <;> rfl
    | _ => rfl
end PM
set_option Elab.async false
set_option linter.all false
set_option maxRecDepth 100000
set_option autoImplicit false
set_option exponentiation.threshold 20000
namespace PM
open PySem PySem.Spec L2 PL
open PyProof.Rows hiding St
mutual
theorem eqV_self : ∀ (n : Nat) (p : PV), okD n p = true → eqV' p p = true
  | _, .non, _ => rfl
  | _, .bl b, _ => by simp [eqV']
  | _, .int i, _ => by simp [eqV']
  | _, .str s, _ => by simp [eqV']
  | 0, .tup l, h => by simp [okD] at h
  | n + 1, .tup l, h => by rw [eqV']; exact eqVs_self n l (by simpa [okD] using h)
  | 0, .lst l, h => by simp [okD] at h
  | n + 1, .lst l, h => by rw [eqV']; exact eqVs_self n l (by simpa [okD] using h)
  | 0, .frz l, h => by simp [okD] at h
  | n + 1, .frz l, h => by rw [eqV']; exact eqVs_self n l (by simpa [okD] using h)
  | n, .dct, h => by cases n <;> simp [okD] at h
theorem eqVs_self : ∀ (n : Nat) (l : List PV), (∀ x ∈ l, okD n x = true) → eqVs l l = true
  | _, [], _ => by rw [eqVs]
  | n, p :: l, h => by rw [eqVs, eqV_self n p (h p List.mem_cons_self), eqVs_self n l fun x hx => h x (List.mem_cons_of_mem _ hx)]; rfl
end
theorem eqP_self {p : PV} (h : okD 30 p = true) : eqP p p = .ok (.bl true) := by rw [eqP_ok h h, eqV_self 30 p h]
def PolyI (as : List Int) : Prop := 2 ≤ as.length ∧ as.length ≤ 9 ∧ as.getLast? ≠ some 0
abbrev Pt := Int × Int
def Abv (q a b : Pt) : Prop := (b.2 - a.2) * (q.1 - a.1) ≤ (q.2 - a.2) * (b.1 - a.1)
def Rises (a b c : Pt) : Prop := (b.2 - a.2) * (c.1 - b.1) < (c.2 - b.2) * (b.1 - a.1)
/-- the stack, its last point first, of a list of points -/
def Cv (S : List Pt) : List Pt → Prop
  | [] => True
  | [a] => a ∈ S
  | b :: a :: r => b ∈ S ∧ a.1 < b.1 ∧ (∀ q ∈ S, a.1 ≤ q.1 → q.1 ≤ b.1 → Abv q a b) ∧ (∀ z, r.head? = some z → Rises z a b) ∧ Cv S (a :: r)
theorem Cv.mem {S : List Pt} : ∀ {s : List Pt}, Cv S s → ∀ q ∈ s, q ∈ S
  | [], _, _, h => nomatch h
  | [a], h, q, hq => by rw [List.mem_singleton.mp hq]; exact h
  | b :: a :: r, h, q, hq => by
    rcases List.mem_cons.mp hq with rfl | hq
    · exact h.1
    · exact Cv.mem h.2.2.2.2 q hq
end PM
set_option Elab.async false
set_option linter.all false
set_option maxRecDepth 100000
set_option autoImplicit false
set_option exponentiation.threshold 20000
namespace PM
open PySem PySem.Spec L2 PL
open PyProof.Rows hiding St
theorem sqN {c k : Rho → Out} {ρ ρ' : Rho} {o : Out} (h : c ρ = .next ρ') (g : k ρ' = o) : bSeq c k ρ = o := by rw [bSeq_eq, h, then_next]; exact g
theorem sqS {i : Nat} {f : Rho → R PV} {k : Rho → Out} {ρ : Rho} (p : PV) {o : Out} (h : f ρ = .ok p) (g : k (ρ.set i (.val p)) = o) : bSeq (sSet i f) k ρ = o := sqN (by rw [sSet_eq, h, st_ok]) g
theorem sqK {t : Rho → R Bool} {u k : Rho → Out} {ρ : Rho} {o : Out} (h : t ρ = .ok false) (g : k ρ = o) : bSeq (sIf t u bNil) k ρ = o := sqN (by rw [sIf_eq, h, stB_ok, if_neg Bool.false_ne_true, bNil_eq]) g
end PM
set_option Elab.async false
set_option linter.all false
set_option maxRecDepth 100000
set_option autoImplicit false
set_option exponentiation.threshold 20000
namespace PM
open PySem PySem.Spec L2 PL
open PyProof.Rows hiding St
noncomputable def vn (p : Int) (n : Nat) : Nat := (vp p n).toNat
theorem vn_spec {p : Int} (hp : 2 ≤ p) {n : Nat} (hn : 1 ≤ n) : ∃ m : Int, (n : Int) = m * p ^ vn p n ∧ m % p ≠ 0 ∧ 1 ≤ m ∧ vp p n = vn p n := by
  obtain ⟨m, v, h1, h2, h3⟩ := vp_spec hp (show (n : Int) ≠ 0 by omega)
  have e : vn p n = v := by unfold vn; rw [h3]; rfl
  have P : 0 < p ^ v := Int.pow_pos (by omega)
  refine ⟨m, by rw [e]; exact h1, h2, ?_, by rw [e]; exact h3⟩
  rcases Int.lt_or_le m 1 with g | g
  · have := Int.mul_le_mul_of_nonneg_right (show m ≤ 0 by omega) (show 0 ≤ p ^ v by omega)
    rw [Int.zero_mul] at this
    omega
  · exact g
theorem vn_uniq {p m : Int} {n v : Nat} (hp : 2 ≤ p) (hn : 1 ≤ n) (h : (n : Int) = m * p ^ v) (hm : m % p ≠ 0) : vn p n = v := by
  obtain ⟨m', h1, h2, _, _⟩ := vn_spec hp hn
  exact (vp_uniq hp (h.symm.trans h1) hm h2).symm
theorem vn_zero {p : Int} {n : Nat} (hp : 2 ≤ p) (hn : 1 ≤ n) (h : (n : Int) % p ≠ 0) : vn p n = 0 := vn_uniq (m := n) hp hn (by simp) h
/-- the figures' sum by a prime: what the factorials lack -/
def dsum (p : Nat) : Nat → Nat → Nat
  | 0, _ => 0
  | f + 1, n => n % p + dsum p f (n / p)
noncomputable def wf (p : Int) : Nat → Nat
  | 0 => 0
  | n + 1 => wf p n + vn p (n + 1)
theorem dsum_0 (p : Nat) : ∀ f : Nat, dsum p f 0 = 0
  | 0 => rfl
  | f + 1 => by rw [dsum, Nat.zero_mod, Nat.zero_div, Nat.zero_add, dsum_0 p f]
theorem dsum_fuel {p : Nat} (hp : 2 ≤ p) : ∀ (f g n : Nat), n ≤ f → n ≤ g → dsum p f n = dsum p g n
  | 0, g, n, h, _ => by
    have e : n = 0 := by omega
    subst e
    rw [dsum_0, dsum_0]
  | f + 1, 0, n, _, h => by
    have e : n = 0 := by omega
    subst e
    rw [dsum_0, dsum_0]
  | f + 1, g + 1, n, h1, h2 => by
    rw [dsum, dsum]
    have : n / p ≤ n / 2 := Nat.div_le_div_left hp (by omega)
    rw [dsum_fuel hp f g (n / p) (by omega) (by omega)]
theorem vn_dsum {p : Nat} (hp : 2 ≤ p) : ∀ (f n : Nat), n + 1 ≤ f → (p - 1) * vn p (n + 1) + dsum p f (n + 1) = 1 + dsum p f n
  | 0, _, h => by omega
  | f + 1, n, h => by
    by_cases c : (n + 1) % p = 0
    · obtain ⟨j, hj⟩ : ∃ j, n + 1 = p * j := ⟨(n + 1) / p, by have := Nat.div_add_mod (n + 1) p; omega⟩
      have j0 : j ≠ 0 := fun z => by rw [z] at hj; omega
      obtain ⟨i, rfl⟩ : ∃ i, j = i + 1 := ⟨j - 1, by omega⟩
      have hn : n = p * i + (p - 1) := by rw [Nat.mul_add] at hj; omega
      have d1 : (n + 1) / p = i + 1 := by rw [hj]; exact Nat.mul_div_cancel_left _ (by omega)
      have d2 : n / p = i := by rw [hn, Nat.mul_add_div (by omega), Nat.div_eq_of_lt (by omega)]; omega
      have m2 : n % p = p - 1 := by rw [hn, Nat.mul_add_mod, Nat.mod_eq_of_lt (by omega)]
      have il : i + 1 ≤ f := by
        have : 2 * (i + 1) ≤ p * (i + 1) := Nat.mul_le_mul_right _ hp
        omega
      have ih := vn_dsum hp f i il
      obtain ⟨m, h1, h2, _, _⟩ := vn_spec (p := (p : Int)) (by omega) (show 1 ≤ i + 1 by omega)
      have e : vn p (n + 1) = vn p (i + 1) + 1 := vn_uniq (m := m) (by omega) (by omega) (by rw [hj, Int.natCast_mul, h1, Int.pow_succ]; grind) h2
      rw [dsum, dsum, c, d1, d2, m2, e, Nat.mul_add]
      omega
    · have hv : vn p (n + 1) = 0 := vn_zero (by omega) (by omega) (by omega)
      have hp0 : 0 < p := by omega
      have dm := Nat.div_add_mod n p
      have lt := Nat.mod_lt n hp0
      have e1 : n % p + 1 < p := by
        rcases Nat.lt_or_ge (n % p + 1) p with g | g
        · exact g
        · exfalso
          have : n + 1 = p * (n / p + 1) := by rw [Nat.mul_add]; omega
          rw [this] at c
          exact c (Nat.mul_mod_right _ _)
      have e2 : n + 1 = p * (n / p) + (n % p + 1) := by omega
      have d1 : (n + 1) / p = n / p := by
        conv => lhs; rw [e2]
        rw [Nat.mul_add_div hp0, Nat.div_eq_of_lt e1]; omega
      have d2 : (n + 1) % p = n % p + 1 := by
        conv => lhs; rw [e2]
        rw [Nat.mul_add_mod, Nat.mod_eq_of_lt e1]
      rw [dsum, dsum, hv, d1, d2]
      omega
theorem wf_dsum {p : Nat} (hp : 2 ≤ p) (f : Nat) : ∀ n : Nat, n ≤ f → (p - 1) * wf p n + dsum p f n = n
  | 0, _ => by
    have := dsum_fuel hp f 0 0 (by omega) (by omega)
    rw [wf, Nat.mul_zero, this]; rfl
  | n + 1, h => by
    have ih := wf_dsum hp f n (by omega)
    have s := vn_dsum hp f n h
    rw [wf, Nat.mul_add]
    omega
theorem dsum_pos {p : Nat} (hp : 2 ≤ p) : ∀ (f n : Nat), n ≤ f → 1 ≤ n → 1 ≤ dsum p f n
  | 0, n, h, h2 => by omega
  | f + 1, n, h, h2 => by
    rw [dsum]
    by_cases c : n % p = 0
    · have : n / p ≤ n / 2 := Nat.div_le_div_left hp (by omega)
      have d := Nat.div_add_mod n p
      have : 1 ≤ n / p := by
        rcases Nat.eq_zero_or_pos (n / p) with g | g
        · rw [g] at d; omega
        · exact g
      have := dsum_pos hp f (n / p) (by omega) this
      omega
    · omega
theorem wf_lt {p : Int} (hp : 2 ≤ p) (n : Nat) (hn : 1 ≤ n) : (p - 1) * (wf p n : Int) ≤ n - 1 := by
  obtain ⟨q, rfl⟩ : ∃ q : Nat, p = q := ⟨p.toNat, by omega⟩
  have h1 := wf_dsum (p := q) (by omega) n n (Nat.le_refl _)
  have h2 := dsum_pos (p := q) (by omega) n n (Nat.le_refl _) hn
  have e : ((q - 1 : Nat) : Int) = (q : Int) - 1 := by omega
  have h3 : ((q - 1 : Nat) : Int) * (wf q n : Int) = (((q - 1) * wf q n : Nat) : Int) := by rw [Int.natCast_mul]
  rw [← e, h3]
  omega
theorem wf_le {p : Int} (hp : 2 ≤ p) (n : Nat) (hn : 1 ≤ n) : wf p n + 1 ≤ n := by
  have h := wf_lt hp n hn
  have : 1 * (wf p n : Int) ≤ (p - 1) * (wf p n : Int) := Int.mul_le_mul_of_nonneg_right (by omega) (by omega)
  omega
end PM
set_option Elab.async false
set_option linter.all false
set_option maxRecDepth 100000
set_option autoImplicit false
set_option exponentiation.threshold 20000
namespace PM
open PySem PySem.Spec L2 PL
open PyProof.Rows hiding St
theorem mo_iff {m x y : Int} : Mo m x y ↔ m ∣ x - y := by
  constructor
  · rintro ⟨z, h⟩; exact ⟨z, by omega⟩
  · rintro ⟨z, h⟩; exact ⟨z, by omega⟩
theorem Mo.canc {p m a b : Int} (hp : p ∈ primesL) (hm : m % p ≠ 0) {E v : Nat} (h : Mo (p ^ (E + v)) (m * p ^ v * a) (m * p ^ v * b)) : Mo (p ^ E) a b := by
  have hpb := primesL_le p hp
  have P : p ^ v ≠ 0 := Int.pow_ne_zero (by omega)
  rw [mo_iff] at h ⊢
  obtain ⟨z, hz⟩ := h
  have e : m * (a - b) = p ^ E * z := by
    rw [Int.pow_add] at hz
    refine Int.eq_of_mul_eq_mul_left P ?_
    grind
  have g : Int.gcd (p ^ E) m = 1 := by rw [Int.gcd_comm]; exact prime_gcd hp hm E
  have d : (p ^ E).natAbs ∣ m.natAbs * (a - b).natAbs := by rw [← Int.natAbs_mul]; exact Int.natAbs_dvd_natAbs.mpr ⟨z, e⟩
  exact Int.natAbs_dvd_natAbs.mp (Nat.Coprime.dvd_of_dvd_mul_left g d)
theorem pow_mo0 {p x : Int} {s : Nat} (h : Mo (p ^ s) x 0) (k : Nat) : Mo (p ^ (s * k)) (x ^ k) 0 := by
  obtain ⟨z, hz⟩ := h
  refine ⟨z ^ k, ?_⟩
  rw [hz, Int.zero_add, Int.mul_pow, Int.pow_mul, Int.zero_add]
def fac : Nat → Int
  | 0 => 1
  | n + 1 => fac n * ((n + 1 : Nat) : Int)
noncomputable def mfc (p : Int) : Nat → Int
  | 0 => 1
  | n + 1 => mfc p n * (((n + 1 : Nat) : Int) / p ^ vn p (n + 1))
theorem vn_div {p : Int} (hp : 2 ≤ p) {n : Nat} (hn : 1 ≤ n) : (n : Int) = (n : Int) / p ^ vn p n * p ^ vn p n ∧ ((n : Int) / p ^ vn p n) % p ≠ 0 ∧ 1 ≤ (n : Int) / p ^ vn p n ∧ (n : Int) / p ^ vn p n ≤ n := by
  obtain ⟨m, h1, h2, h3, _⟩ := vn_spec hp hn
  have P : 0 < p ^ vn p n := Int.pow_pos (by omega)
  have e : (n : Int) / p ^ vn p n = m := by
    conv => lhs; rw [h1]
    exact Int.mul_ediv_cancel _ (by omega)
  rw [e]
  refine ⟨h1, h2, h3, ?_⟩
  have := Int.mul_le_mul_of_nonneg_left (show 1 ≤ p ^ vn p n by omega) (show 0 ≤ m by omega)
  omega
theorem mfc_spec {p : Int} (hp : p ∈ primesL) : ∀ n : Nat, fac n = mfc p n * p ^ wf p n ∧ mfc p n % p ≠ 0
  | 0 => by
    have hpb := primesL_le p hp
    refine ⟨by simp [fac, mfc, wf], ?_⟩
    rw [mfc, Int.emod_eq_of_lt (by omega) (by omega)]; decide
  | n + 1 => by
    have hpb := primesL_le p hp
    obtain ⟨h1, h2⟩ := mfc_spec hp n
    obtain ⟨g1, g2, _⟩ := vn_div hpb.1 (show 1 ≤ n + 1 by omega)
    refine ⟨?_, prime_mulI hp h2 g2⟩
    rw [fac, h1, mfc, wf, Int.pow_add]
    conv => lhs; rw [g1]
    grind
def sms (q : Nat → Int) : Nat → Int
  | 0 => q 0
  | n + 1 => sms q n + q (n + 1)
def LgQ (p : Int) (E : Nat) (x : Int) (q : Nat → Int) (N : Nat) : Prop := ∀ k : Nat, 1 ≤ k → k ≤ N → Mo (p ^ (E + vn p k)) (k * q k) (x ^ k)
def ExQ (p : Int) (E : Nat) (x : Int) (q : Nat → Int) (N : Nat) : Prop := ∀ k : Nat, k ≤ N → Mo (p ^ (E + wf p k)) (fac k * q k) (x ^ k)
noncomputable def trn (a w : Int) : Int := match F_turned [.int a, .int w] with | .ok (.int z) => z | _ => 0
noncomputable def ep (p : Int) (n : Nat) (u : Int) : Nat → Int
  | 0 => 1
  | k + 1 => ep p n u k * u * trn (((k + 1 : Nat) : Int) / p ^ vn p (k + 1)) (p ^ n) % p ^ n
noncomputable def er (p : Int) (s k : Nat) : Nat := k * s - wf p k
end PM
set_option Elab.async false
set_option linter.all false
set_option maxRecDepth 100000
set_option autoImplicit false
set_option exponentiation.threshold 20000
namespace PM
theorem Mo.zero {m x : Int} (z : Int) (h : x = m * z) : Mo m x 0 := ⟨z, by rw [h, Int.zero_add]⟩
theorem Mo.scaleP {p X Y c : Int} {a b : Nat} (h : Mo (p ^ a) X Y) (hc : Mo (p ^ b) c 0) : Mo (p ^ (a + b)) (X * c) (Y * c) := by
  obtain ⟨z, hz⟩ := h
  obtain ⟨w, hw⟩ := hc
  exact ⟨z * w, by rw [hz, hw, Int.pow_add]; grind⟩
theorem Mo.zeroP {p X c : Int} {a b : Nat} (h : Mo (p ^ a) X 0) (hc : Mo (p ^ b) c 0) : Mo (p ^ (a + b)) (X * c) 0 := by
  have := Mo.scaleP h hc
  rwa [Int.zero_mul] at this
theorem Mo.zero_mul {m X : Int} (c : Int) (h : Mo m X 0) : Mo m (X * c) 0 := by
  obtain ⟨z, hz⟩ := h
  exact ⟨z * c, by rw [hz]; grind⟩
theorem sms_tail {W : Int} {q : Nat → Int} {M : Nat} : ∀ N : Nat, M ≤ N → (∀ k, M < k → k ≤ N → Mo W (q k) 0) → Mo W (sms q N) (sms q M)
  | 0, h, _ => by
    have e : M = 0 := by omega
    subst e; exact .refl _ _
  | N + 1, h, t => by
    by_cases e : M = N + 1
    · subst e; exact .refl _ _
    · have ih := sms_tail N (by omega) fun k h1 h2 => t k h1 (by omega)
      rw [sms]
      exact (ih.add (t (N + 1) (by omega) (by omega))).trans (.of_eq (Int.add_zero _))
section
variable {p x : Int} {E : Nat}
theorem ex_tail (hp : p ∈ primesL) {e : Nat → Int} {N s k : Nat} (h : ExQ p E x e N) (hx : Mo (p ^ s) x 0) (hN : k ≤ N) (hs : E + wf p k ≤ s * k) : Mo (p ^ E) (e k) 0 := by
  obtain ⟨f1, f2⟩ := mfc_spec hp k
  have a := (h k hN).trans ((pow_mo0 hx k).low hs)
  refine Mo.canc hp f2 (v := wf p k) ?_
  rw [← f1, Int.mul_zero]; exact a
end
theorem lead_nz {ds : List Int} (h : ds.head? ≠ some 0) : lead ds = 0 ∧ strip ds = ds := by
  cases ds with
  | nil => exact ⟨rfl, rfl⟩
  | cons d r =>
    have hd : d ≠ 0 := fun z => h (by rw [z]; rfl)
    have e : (d == 0) = false := by simpa using hd
    simp [lead, strip, e]
theorem digs_head (p T : Int) {n : Nat} (h : 1 ≤ n) : (digs p T n).head? = some (T % p) := by
  obtain ⟨m, rfl⟩ : ∃ m, n = m + 1 := ⟨n - 1, by omega⟩
  rfl
theorem LgQ.low {p x : Int} {E F N : Nat} {q : Nat → Int} (h : LgQ p E x q N) (hF : F ≤ E) : LgQ p F x q N := fun k h1 h2 => (h k h1 h2).low (by omega)
theorem ExQ.low {p x : Int} {E F N : Nat} {q : Nat → Int} (h : ExQ p E x q N) (hF : F ≤ E) : ExQ p F x q N := fun k h2 => (h k h2).low (by omega)
end PM
set_option Elab.async false
set_option linter.all false
set_option maxRecDepth 100000
set_option autoImplicit false
set_option exponentiation.threshold 20000
namespace PM
def cb : Nat → Nat → Int
  | _, 0 => 1
  | 0, _ + 1 => 0
  | n + 1, k + 1 => cb n k + cb n (k + 1)
theorem cb_zero (n : Nat) : cb n 0 = 1 := by cases n <;> rfl
theorem cb_step (n k : Nat) : cb (n + 1) (k + 1) = cb n k + cb n (k + 1) := rfl
theorem cb_abs : ∀ n k : Nat, ((k + 1 : Nat) : Int) * cb (n + 1) (k + 1) = ((n + 1 : Nat) : Int) * cb n k
  | 0, 0 => by rw [cb_step, cb_zero]; rfl
  | 0, k + 1 => by rw [cb_step]; show ((k + 1 + 1 : Nat) : Int) * (0 + 0) = ((0 + 1 : Nat) : Int) * 0; omega
  | n + 1, 0 => by
    have h := cb_abs n 0
    rw [cb_step (n + 1) 0, cb_zero]
    rw [cb_zero] at h
    have e : ((0 + 1 : Nat) : Int) = 1 := rfl
    rw [e] at h ⊢
    have e2 : ((n + 1 + 1 : Nat) : Int) = ((n + 1 : Nat) : Int) + 1 := by omega
    rw [e2]
    grind
  | n + 1, k + 1 => by
    have h1 := cb_abs n (k + 1)
    have h0 := cb_abs n k
    have s := cb_step (n + 1) (k + 1)
    have t := cb_step n k
    have e1 : ((k + 1 + 1 : Nat) : Int) = ((k + 1 : Nat) : Int) + 1 := by omega
    have e2 : ((n + 1 + 1 : Nat) : Int) = ((n + 1 : Nat) : Int) + 1 := by omega
    rw [e1] at h1
    rw [s, e1, e2]
    obtain ⟨a, ha⟩ : ∃ a, a = ((k + 1 : Nat) : Int) := ⟨_, rfl⟩
    obtain ⟨b, hb⟩ : ∃ b, b = ((n + 1 : Nat) : Int) := ⟨_, rfl⟩
    rw [← ha, ← hb] at h1 h0 ⊢
    grind
theorem cb_big : ∀ n k : Nat, n < k → cb n k = 0
  | _, 0, h => by omega
  | 0, k + 1, _ => rfl
  | n + 1, k + 1, h => by rw [cb_step, cb_big n k (by omega), cb_big n (k + 1) (by omega)]; rfl
def Lg (p : Int) (E : Nat) (x T : Int) : Prop := ∃ K0 : Nat, ∀ K : Nat, K0 ≤ K → Mo (p ^ (E + K)) (p ^ K * T) ((1 + x) ^ (p.toNat ^ K) - 1)
theorem Lg.low {p x T : Int} {E F : Nat} (h : Lg p E x T) (hF : F ≤ E) : Lg p F x T := by
  obtain ⟨K0, h⟩ := h
  exact ⟨K0, fun K hK => (h K hK).low (by omega)⟩
theorem Lg.mul {p x y T S : Int} {E : Nat} (h : Lg p E x T) (g : Lg p E y S) : Lg p E (x + y + x * y) (T + S) := by
  obtain ⟨K0, h⟩ := h
  obtain ⟨K1, g⟩ := g
  refine ⟨E + K0 + K1, fun K hK => ?_⟩
  have h := h K (by omega)
  have g := g K (by omega)
  obtain ⟨X, hX⟩ : ∃ X, X = (1 + x) ^ (p.toNat ^ K) - 1 := ⟨_, rfl⟩
  obtain ⟨Y, hY⟩ : ∃ Y, Y = (1 + y) ^ (p.toNat ^ K) - 1 := ⟨_, rfl⟩
  have e : (1 + (x + y + x * y)) ^ (p.toNat ^ K) - 1 = X + Y + X * Y := by
    have e1 : 1 + (x + y + x * y) = (1 + x) * (1 + y) := by grind
    rw [e1, Int.mul_pow, hX, hY]
    grind
  rw [← hX] at h
  rw [← hY] at g
  rw [e]
  have z : Mo (p ^ (E + K)) (X * Y) 0 := by
    have x0 : Mo (p ^ K) X 0 := (h.symm.low (by omega)).trans (Mo.zero T rfl)
    have y0 : Mo (p ^ K) Y 0 := (g.symm.low (by omega)).trans (Mo.zero S rfl)
    exact (Mo.zeroP x0 y0).low (by omega)
  have s := (h.add g).add z.symm
  exact (Mo.of_eq (by grind)).trans s
end PM
set_option Elab.async false
set_option linter.all false
set_option maxRecDepth 100000
set_option autoImplicit false
set_option exponentiation.threshold 20000
namespace PM
open PySem PySem.Spec L2 PL
open PyProof.Rows hiding St
theorem sms_front (f : Nat → Int) : ∀ M : Nat, sms f (M + 1) = f 0 + sms (fun i => f (i + 1)) M
  | 0 => rfl
  | M + 1 => by
    have ih := sms_front f M
    rw [show sms f (M + 1 + 1) = sms f (M + 1) + f (M + 1 + 1) from rfl, ih]
    show f 0 + sms (fun i => f (i + 1)) M + f (M + 1 + 1) = f 0 + (sms (fun i => f (i + 1)) M + f (M + 1 + 1))
    omega
theorem sms_add (f g : Nat → Int) : ∀ M : Nat, sms (fun i => f i + g i) M = sms f M + sms g M
  | 0 => rfl
  | M + 1 => by
    have ih := sms_add f g M
    show sms (fun i => f i + g i) M + (f (M + 1) + g (M + 1)) = sms f M + f (M + 1) + (sms g M + g (M + 1))
    omega
theorem sms_mul (c : Int) (f : Nat → Int) : ∀ M : Nat, sms (fun i => c * f i) M = c * sms f M
  | 0 => rfl
  | M + 1 => by
    have ih := sms_mul c f M
    show sms (fun i => c * f i) M + c * f (M + 1) = c * (sms f M + f (M + 1))
    rw [ih]; grind
theorem sms_ext {f g : Nat → Int} : ∀ M : Nat, (∀ i, i ≤ M → f i = g i) → sms f M = sms g M
  | 0, h => h 0 (Nat.le_refl _)
  | M + 1, h => by
    rw [sms, sms, sms_ext M fun i hi => h i (by omega), h (M + 1) (Nat.le_refl _)]
theorem sms_cong {W : Int} {f g : Nat → Int} : ∀ M : Nat, (∀ i, i ≤ M → Mo W (f i) (g i)) → Mo W (sms f M) (sms g M)
  | 0, h => h 0 (Nat.le_refl _)
  | M + 1, h => (sms_cong M fun i hi => h i (by omega)).add (h (M + 1) (Nat.le_refl _))
/-- a triangle of products, by rows and by columns -/
theorem tri (e f : Nat → Int) : ∀ N : Nat, sms (fun n => sms (fun i => e i * f (n - i)) n) N = sms (fun i => e i * sms f (N - i)) N
  | 0 => rfl
  | N + 1 => by
    have ih := tri e f N
    have e1 : sms (fun n => sms (fun i => e i * f (n - i)) n) (N + 1) = sms (fun n => sms (fun i => e i * f (n - i)) n) N + sms (fun i => e i * f (N + 1 - i)) (N + 1) := rfl
    have e2 : sms (fun i => e i * f (N + 1 - i)) (N + 1) = sms (fun i => e i * f (N + 1 - i)) N + e (N + 1) * f (N + 1 - (N + 1)) := rfl
    have e3 : sms (fun i => e i * sms f (N + 1 - i)) (N + 1) = sms (fun i => e i * sms f (N + 1 - i)) N + e (N + 1) * sms f (N + 1 - (N + 1)) := rfl
    have e4 : sms (fun i => e i * sms f (N + 1 - i)) N = sms (fun i => e i * sms f (N - i) + e i * f (N + 1 - i)) N := sms_ext N fun i hi => by
      rw [show N + 1 - i = (N - i) + 1 by omega, sms]; grind
    rw [e1, ih, e2, e3, e4, sms_add, Nat.sub_self]
    show _ = _ + e (N + 1) * f 0
    omega
theorem binom2 (y w : Int) : ∀ n M : Nat, n ≤ M → sms (fun i => cb n i * y ^ i * w ^ (M - i)) M = (y + w) ^ n * w ^ (M - n)
  | 0, M, _ => by
    cases M with
    | zero => show cb 0 0 * y ^ 0 * w ^ (0 - 0) = _; simp [cb_zero]
    | succ M =>
      rw [sms_front]
      have z : sms (fun i => cb 0 (i + 1) * y ^ (i + 1) * w ^ (M + 1 - (i + 1))) M = 0 := by
        have : sms (fun i => cb 0 (i + 1) * y ^ (i + 1) * w ^ (M + 1 - (i + 1))) M = sms (fun i => 0 * (0 : Int)) M := sms_ext M fun i _ => by rw [cb_big 0 (i + 1) (by omega)]; simp
        rw [this, sms_mul, Int.zero_mul]
      rw [z, cb_zero]; simp
  | n + 1, M, h => by
    obtain ⟨m, rfl⟩ : ∃ m, M = m + 1 := ⟨M - 1, by omega⟩
    have i1 := binom2 y w n (m + 1) (by omega)
    have i2 := binom2 y w n m (by omega)
    rw [sms_front] at i1 ⊢
    have e : sms (fun i => cb (n + 1) (i + 1) * y ^ (i + 1) * w ^ (m + 1 - (i + 1))) m = sms (fun i => cb n (i + 1) * y ^ (i + 1) * w ^ (m + 1 - (i + 1)) + y * (cb n i * y ^ i * w ^ (m - i))) m := sms_ext m fun i hi => by
      rw [cb_step, show m + 1 - (i + 1) = m - i by omega, Int.pow_succ]; grind
    rw [e, sms_add, sms_mul, i2]
    rw [cb_zero] at i1 ⊢
    rw [show m + 1 - n = (m - n) + 1 by omega, Int.pow_succ] at i1
    rw [show m + 1 - (n + 1) = m - n by omega, Int.pow_succ (y + w)]
    grind
theorem cb_fac : ∀ n k : Nat, k ≤ n → cb n k * fac k * fac (n - k) = fac n
  | n, 0, _ => by rw [cb_zero, fac, Nat.sub_zero]; omega
  | 0, k + 1, h => by omega
  | n + 1, k + 1, h => by
    have ih := cb_fac n k (by omega)
    have ab := cb_abs n k
    rw [show n + 1 - (k + 1) = n - k by omega, fac, fac, ← ih]
    grind
def Nr (p y : Int) : Prop := Mo (p ^ 1) y 0 ∧ (p = 2 → Mo (p ^ 2) y 0)
theorem Nr.add {p y w : Int} (h : Nr p y) (g : Nr p w) : Nr p (y + w) := by
  refine ⟨by have := h.1.add g.1; rwa [Int.add_zero] at this, fun e => by have := (h.2 e).add (g.2 e); rwa [Int.add_zero] at this⟩
theorem half {p y : Int} (hp : p ∈ primesL) (h : Nr p y) {E a i N : Nat} {e : Nat → Int} (he : ExQ p E y e N) (hi : i ≤ N) (ha : a ≤ E) (ha2 : a ≤ (i + 1) / 2) : Mo (p ^ a) (e i) 0 := by
  have hpb := primesL_le p hp
  by_cases i0 : i = 0
  · subst i0
    have : a = 0 := by omega
    subst this
    exact ⟨e 0, by simp⟩
  · have w := wf_le hpb.1 i (by omega)
    by_cases e2 : p = 2
    · exact ex_tail hp (he.low ha) (h.2 e2) hi (by omega)
    · refine ex_tail hp (he.low ha) h.1 hi ?_
      have w2 := wf_lt hpb.1 i (by omega)
      have : 2 * (wf p i : Int) ≤ (p - 1) * (wf p i : Int) := Int.mul_le_mul_of_nonneg_right (by omega) (by omega)
      omega
theorem wf_add {p : Int} (hp : p ∈ primesL) {n i : Nat} (hi : i ≤ n) : wf p i + wf p (n - i) ≤ wf p n := by
  have hpb := primesL_le p hp
  obtain ⟨a1, a2⟩ := mfc_spec hp i
  obtain ⟨b1, b2⟩ := mfc_spec hp (n - i)
  obtain ⟨c1, c2⟩ := mfc_spec hp n
  have cf := cb_fac n i hi
  rcases Nat.lt_or_ge (wf p n) (wf p i + wf p (n - i)) with g | g
  · exfalso
    obtain ⟨d, hd⟩ : ∃ d, wf p i + wf p (n - i) = wf p n + (d + 1) := ⟨wf p i + wf p (n - i) - wf p n - 1, by omega⟩
    have e : mfc p n * p ^ wf p n = cb n i * mfc p i * mfc p (n - i) * p ^ (d + 1) * p ^ wf p n := by
      rw [← c1, ← cf, a1, b1]
      have : p ^ wf p i * p ^ wf p (n - i) = p ^ wf p n * p ^ (d + 1) := by rw [← Int.pow_add, ← Int.pow_add, hd]
      grind
    have e2 := Int.eq_of_mul_eq_mul_right (Int.pow_ne_zero (show p ≠ 0 by omega)) e
    rw [e2, Int.pow_succ, ← Int.mul_assoc, Int.mul_emod_left] at c2
    exact c2 rfl
  · exact g
theorem cb_wf {p : Int} (hp : p ∈ primesL) {n i : Nat} (hi : i ≤ n) : Mo (p ^ (wf p n - (wf p i + wf p (n - i)))) (cb n i) 0 := by
  obtain ⟨a1, a2⟩ := mfc_spec hp i
  obtain ⟨b1, b2⟩ := mfc_spec hp (n - i)
  obtain ⟨c1, c2⟩ := mfc_spec hp n
  have cf := cb_fac n i hi
  have w := wf_add hp hi
  refine Mo.canc hp (prime_mulI hp a2 b2) (v := wf p i + wf p (n - i)) ?_
  rw [show wf p n - (wf p i + wf p (n - i)) + (wf p i + wf p (n - i)) = wf p n by omega, Int.mul_zero]
  refine Mo.zero (mfc p n) ?_
  have e : mfc p i * mfc p (n - i) * p ^ (wf p i + wf p (n - i)) * cb n i = cb n i * fac i * fac (n - i) := by rw [a1, b1, Int.pow_add]; grind
  rw [e, cf, c1, Int.mul_comm]
theorem nr_wf {p y : Int} (hp : p ∈ primesL) (h : Nr p y) (i : Nat) : Mo (p ^ wf p i) (y ^ i) 0 := by
  have hpb := primesL_le p hp
  have z := pow_mo0 h.1 i
  by_cases i0 : i = 0
  · subst i0; exact ⟨y ^ 0, by simp [wf]⟩
  · have w := wf_le hpb.1 i (by omega)
    exact z.low (by omega)
theorem conv {p y w : Int} (hp : p ∈ primesL) (hy : Nr p y) (hw : Nr p w) {E N : Nat} {e f : Nat → Int} (he : ExQ p E y e N) (hf : ExQ p E w f N) : ExQ p E (y + w) (fun n => sms (fun i => e i * f (n - i)) n) N := by
  intro n hn
  have b := binom2 y w n n (Nat.le_refl _)
  rw [Nat.sub_self, Int.pow_zero, Int.mul_one] at b
  rw [← b, ← sms_mul]
  refine sms_cong n fun i hi => ?_
  have cf := cb_fac n i hi
  have wa := wf_add hp hi
  have x1 := he i (by omega)
  have x2 := hf (n - i) (by omega)
  obtain ⟨b1, _⟩ := mfc_spec hp (n - i)
  have s1 := Mo.scaleP x1 (Mo.zero (m := p ^ wf p (n - i)) (mfc p (n - i) * f (n - i)) (show fac (n - i) * f (n - i) = _ by rw [b1]; grind))
  have s2 := Mo.scaleP x2 (nr_wf hp hy i)
  have s3 : Mo (p ^ (E + (wf p i + wf p (n - i)))) (fac i * e i * (fac (n - i) * f (n - i))) (y ^ i * w ^ (n - i)) := by
    rw [show E + wf p i + wf p (n - i) = E + (wf p i + wf p (n - i)) by omega] at s1
    rw [show E + wf p (n - i) + wf p i = E + (wf p i + wf p (n - i)) by omega] at s2
    exact s1.trans ((Mo.of_eq (Int.mul_comm _ _)).trans (s2.trans (.of_eq (Int.mul_comm _ _))))
  have s4 := Mo.scaleP s3 (cb_wf hp hi)
  rw [show E + (wf p i + wf p (n - i)) + (wf p n - (wf p i + wf p (n - i))) = E + wf p n by omega] at s4
  refine (Mo.of_eq ?_).trans (s4.trans (.of_eq (by grind)))
  rw [← cf]
  grind
def Ex (p : Int) (E : Nat) (y W : Int) : Prop := ∃ (e : Nat → Int), ExQ p E y e (2 * E + 1) ∧ Mo (p ^ E) W (sms e (2 * E + 1))
theorem Ex.low {p y W : Int} (hp : p ∈ primesL) (hy : Nr p y) {E F : Nat} (h : Ex p E y W) (hF : F ≤ E) : Ex p F y W := by
  obtain ⟨e, he, hW⟩ := h
  refine ⟨e, fun k hk => (he.low hF) k (by omega), (hW.low hF).trans ?_⟩
  exact sms_tail _ (by omega) fun k k1 k2 => half hp hy he k2 hF (by omega)
theorem Ex.add {p y w W Z : Int} (hp : p ∈ primesL) (hy : Nr p y) (hw : Nr p w) {E : Nat} (h : Ex p E y W) (g : Ex p E w Z) : Ex p E (y + w) (W * Z) := by
  obtain ⟨e, he, hW⟩ := h
  obtain ⟨f, hf, hZ⟩ := g
  obtain ⟨N, hN⟩ : ∃ N, N = 2 * E + 1 := ⟨_, rfl⟩
  rw [← hN] at he hW hf hZ
  refine ⟨_, by rw [← hN]; exact conv hp hy hw he hf, ?_⟩
  rw [← hN, tri]
  have s : Mo (p ^ E) (sms e N * sms f N) (sms (fun i => e i * sms f (N - i)) N) := by
    rw [Int.mul_comm, ← sms_mul]
    refine sms_cong N fun i hi => ?_
    rw [Int.mul_comm]
    obtain ⟨a, ha⟩ : ∃ a, a = min E ((i + 1) / 2) := ⟨_, rfl⟩
    have ea := half hp hy he hi (show a ≤ E by omega) (by omega)
    have ft : Mo (p ^ (E - a)) (sms f N) (sms f (N - i)) := sms_tail N (by omega) fun k k1 k2 => half hp hw hf k2 (by omega) (by omega)
    have t := Mo.scaleP ft ea
    rw [show E - a + a = E by omega] at t
    exact (Mo.of_eq (Int.mul_comm _ _)).trans (t.trans (.of_eq (Int.mul_comm _ _)))
  exact (hW.mul hZ).trans s
theorem Lg.inj {p x y T : Int} (hp : p ∈ primesL) (hx : Nr p x) (hy : Nr p y) {E : Nat} (h : Lg p E x T) (g : Lg p E y T) : Mo (p ^ E) x y := by
  have hpb := primesL_le p hp
  obtain ⟨K0, h⟩ := h
  obtain ⟨K1, g⟩ := g
  have e := (h (K0 + K1) (by omega)).symm.trans (g (K0 + K1) (by omega))
  obtain ⟨K, hK⟩ : ∃ K, K = K0 + K1 := ⟨_, rfl⟩
  rw [← hK] at e
  by_cases d0 : x - y = 0
  · exact .of_eq (by omega)
  obtain ⟨u, j, e1, e2, _⟩ := vp_spec hpb.1 d0
  rcases Nat.lt_or_ge j E with jE | jE
  · exfalso
    have near : ∀ s : Nat, Mo (p ^ s) (x - y) 0 → s ≤ j := fun s hs => by
      rcases Nat.lt_or_ge j s with g | g
      · exfalso
        obtain ⟨z, hz⟩ := hs
        rw [Int.zero_add, e1] at hz
        obtain ⟨d, hd⟩ : ∃ d, s = j + (d + 1) := ⟨s - j - 1, by omega⟩
        rw [hd, Int.pow_add] at hz
        have pj : p ^ j ≠ 0 := Int.pow_ne_zero (by omega)
        have : u = p ^ (d + 1) * z := Int.eq_of_mul_eq_mul_right pj (by rw [hz]; grind)
        rw [this, Int.pow_succ, Int.mul_assoc, Int.mul_comm p z, ← Int.mul_assoc, Int.mul_emod_left] at e2
        exact e2 rfl
      · exact g
    have j1 := near 1 (by have := hx.1.sub hy.1; rwa [Int.sub_self] at this)
    have j2 : p = 2 → 2 ≤ j := fun q => near 2 (by have := (hx.2 q).sub (hy.2 q); rwa [Int.sub_self] at this)
    have B1 : (1 + y) % p ≠ 0 := by
      obtain ⟨z, hz⟩ := hy.1
      rw [hz, Int.pow_succ, Int.pow_zero, Int.zero_add, Int.one_mul, Int.add_mul_emod_self_left, Int.emod_eq_of_lt (by omega) (by omega)]
      decide
    obtain ⟨y', q1, q2⟩ := lte_t hp B1 j u j1 j2 K
    have xe : 1 + x = 1 + y + p ^ j * u := by rw [Int.mul_comm]; omega
    rw [xe, q1] at e
    obtain ⟨z, hz⟩ := e
    have f : p ^ (j + K) * y' = p ^ (E + K) * z := by omega
    obtain ⟨d, hd⟩ : ∃ d, E + K = (j + K) + (d + 1) := ⟨E - j - 1, by omega⟩
    rw [hd, Int.pow_add p (j + K) (d + 1)] at f
    have pj : p ^ (j + K) ≠ 0 := Int.pow_ne_zero (by omega)
    have : y' = p ^ (d + 1) * z := Int.eq_of_mul_eq_mul_left pj (by rw [f]; grind)
    have q3 := q2 e2
    rw [this, Int.pow_succ, Int.mul_assoc, Int.mul_comm p z, ← Int.mul_assoc, Int.mul_emod_left] at q3
    exact q3 rfl
  · obtain ⟨d, rfl⟩ : ∃ d, j = E + d := ⟨j - E, by omega⟩
    refine ⟨u * p ^ d, ?_⟩
    rw [Int.pow_add] at e1
    have : u * (p ^ E * p ^ d) = p ^ E * (u * p ^ d) := by grind
    omega
end PM
set_option Elab.async false
set_option linter.all false
set_option maxRecDepth 100000
set_option autoImplicit false
set_option exponentiation.threshold 20000
namespace PM
open PySem PySem.Spec L2 PL
open PyProof.Rows hiding St
def slp : Nat → List Int → List Int
  | _, [] => []
  | n, a :: r => (n : Int) * a :: slp (n + 1) r
def at0 (l : List Int) (n : Nat) : Int := l.getD n 0
def prow (a b : List Int) (n : Nat) : Nat → Int
  | 0 => 0
  | k + 1 => prow a b n k + (if k ≤ n then at0 a k * at0 b (n - k) else 0)
/-- the list while row k is added, up to its m-th number -/
def Part (a b L : List Int) (k m : Nat) : Prop := L.length = a.length + b.length - 1 ∧ ∀ n, n < L.length → at0 L n = prow a b n k + (if k ≤ n ∧ n - k < m then at0 a k * at0 b (n - k) else 0)
theorem Part.next {a b L : List Int} {k m : Nat} (h : Part a b L k m) (hk : k < a.length) (hm : m < b.length) : Part a b (L.set (k + m) (at0 L (k + m) + at0 a k * at0 b m)) k (m + 1) := by
  obtain ⟨h1, h2⟩ := h
  have kl : k + m < L.length := by omega
  refine ⟨by rw [List.length_set, h1], fun n hn => ?_⟩
  rw [List.length_set] at hn
  by_cases e : n = k + m
  · subst e
    have : at0 (L.set (k + m) (at0 L (k + m) + at0 a k * at0 b m)) (k + m) = at0 L (k + m) + at0 a k * at0 b m := by
      unfold at0
      rw [List.getD_eq_getElem?_getD, List.getElem?_set_self kl, Option.getD_some]
    rw [this, h2 _ kl, if_neg (by omega), if_pos (by omega), Int.add_zero, Nat.add_sub_cancel_left]
  · have : at0 (L.set (k + m) (at0 L (k + m) + at0 a k * at0 b m)) n = at0 L n := by
      unfold at0
      rw [List.getD_eq_getElem?_getD, List.getElem?_set_ne (fun z => e z.symm), ← List.getD_eq_getElem?_getD]
    rw [this, h2 n hn]
    congr 1
    by_cases q : k ≤ n ∧ n - k < m
    · rw [if_pos q, if_pos (by omega)]
    · rw [if_neg q, if_neg (by omega)]
end PM
set_option Elab.async false
set_option linter.all false
set_option maxRecDepth 100000
set_option autoImplicit false
set_option exponentiation.threshold 20000
namespace PM
def ev : List Int → Int → Int
  | [], _ => 0
  | c :: r, x => c + x * ev r x
def syn (d : Int) : List Int → List Int
  | [] => []
  | c :: r => (c + d * (syn d r).headD 0) :: syn d r
theorem syn_len (d : Int) : ∀ cs : List Int, (syn d cs).length = cs.length
  | [] => rfl
  | c :: r => by rw [syn, List.length_cons, List.length_cons, syn_len d r]
def shf (d : Int) : Nat → List Int → List Int
  | 0, cs => cs
  | n + 1, cs => match syn d cs with
    | [] => []
    | v :: q => v :: shf d n q
theorem shf_len (d : Int) : ∀ (n : Nat) (cs : List Int), (shf d n cs).length = cs.length
  | 0, _ => rfl
  | n + 1, cs => by
    have l := syn_len d cs
    rw [shf]
    cases h : syn d cs with
    | nil => rw [← l, h]
    | cons v q => rw [← l, h]; simp [shf_len d n q]
/-- each number times a rising power -/
def scl (p : Int) : Int → List Int → List Int
  | _, [] => []
  | b, c :: r => c * b :: scl p (b * p) r
theorem scl_len (p : Int) : ∀ (b : Int) (cs : List Int), (scl p b cs).length = cs.length
  | _, [] => rfl
  | b, c :: r => by rw [scl, List.length_cons, List.length_cons, scl_len]
theorem ev_mul (k z : Int) : ∀ cs : List Int, ev (cs.map fun c => k * c) z = k * ev cs z
  | [] => by simp [ev]
  | c :: r => by rw [List.map_cons, ev, ev, ev_mul k z r]; grind
/-- bounds -/
theorem syn_bd {d : Int} {m : Nat} (hd : d.natAbs < 128 - 1) : ∀ cs : List Int, (∀ c ∈ cs, c.natAbs < 2 ^ m) → ∀ c ∈ syn d cs, c.natAbs < 2 ^ (m + 7 * cs.length)
  | [], _ => by simp [syn]
  | c :: r, h => by
    have ih := syn_bd hd r fun x hx => h x (List.mem_cons_of_mem _ hx)
    intro x hx
    rw [syn] at hx
    rw [List.length_cons]
    have up : (2 : Nat) ^ (m + 7 * (r.length + 1)) = 2 ^ (m + 7 * r.length) * 128 := by rw [show m + 7 * (r.length + 1) = m + 7 * r.length + 7 by omega, Nat.pow_add]
    have lo : (2 : Nat) ^ m ≤ 2 ^ (m + 7 * r.length) := Nat.pow_le_pow_right (by omega) (by omega)
    rw [up]
    rcases List.mem_cons.mp hx with hx | hx
    · subst hx
      have hc := h c List.mem_cons_self
      have hh : ((syn d r).headD 0).natAbs < 2 ^ (m + 7 * r.length) := by
        cases hs : syn d r with
        | nil => simpa using Nat.pow_pos (by omega : 0 < 2)
        | cons a l => exact ih a (by rw [hs]; exact List.mem_cons_self)
      have t := Int.natAbs_add_le c (d * (syn d r).headD 0)
      rw [Int.natAbs_mul] at t
      have m1 : d.natAbs * ((syn d r).headD 0).natAbs ≤ 126 * 2 ^ (m + 7 * r.length) := Nat.mul_le_mul (by omega) (by omega)
      omega
    · exact Nat.lt_of_lt_of_le (ih x hx) (by omega)
theorem shf_bd {d : Int} (hd : d.natAbs < 128 - 1) : ∀ (n : Nat) (m : Nat) (cs : List Int) (L : Nat), cs.length ≤ L → (∀ c ∈ cs, c.natAbs < 2 ^ m) → ∀ c ∈ shf d n cs, c.natAbs < 2 ^ (m + 7 * L * n)
  | 0, m, cs, L, _, h => by simpa [shf] using h
  | n + 1, m, cs, L, hl, h => by
    have b := syn_bd hd cs h
    have l := syn_len d cs
    intro x hx
    rw [shf] at hx
    have up : ∀ k : Nat, k ≤ m + 7 * L * (n + 1) → (2 : Nat) ^ k ≤ 2 ^ (m + 7 * L * (n + 1)) := fun k hk => Nat.pow_le_pow_right (by omega) hk
    have mm : 7 * L * (n + 1) = 7 * L * n + 7 * L := by rw [Nat.mul_succ]
    have pos : 0 ≤ 7 * L * n := Nat.zero_le _
    cases hs : syn d cs with
    | nil => rw [hs] at hx; cases hx
    | cons v q =>
      rw [hs] at hx b l
      have b' : ∀ c ∈ v :: q, c.natAbs < 2 ^ (m + 7 * L) := fun c hc => Nat.lt_of_lt_of_le (b c hc) (Nat.pow_le_pow_right (by omega) (by omega))
      rcases List.mem_cons.mp hx with hx | hx
      · subst hx
        exact Nat.lt_of_lt_of_le (b' x List.mem_cons_self) (up _ (by omega))
      · have ih := shf_bd hd n (m + 7 * L) q L (by rw [List.length_cons] at l; omega) (fun c hc => b' c (List.mem_cons_of_mem _ hc)) x hx
        exact Nat.lt_of_lt_of_le ih (up _ (by omega))
theorem scl_bd {p : Int} (hp : p.natAbs < 128) : ∀ (cs : List Int) (b : Int) (m k : Nat), b.natAbs < 2 ^ k → (∀ c ∈ cs, c.natAbs < 2 ^ m) → ∀ c ∈ scl p b cs, c.natAbs < 2 ^ (m + k + 7 * cs.length)
  | [], b, m, k, _, _ => by simp [scl]
  | c :: r, b, m, k, hb, h => by
    intro x hx
    rw [scl] at hx
    rcases List.mem_cons.mp hx with hx | hx
    · subst hx
      rw [Int.natAbs_mul]
      have : c.natAbs * b.natAbs < 2 ^ m * 2 ^ k := Nat.mul_lt_mul'' (h c List.mem_cons_self) hb
      rw [← Nat.pow_add] at this
      exact Nat.lt_of_lt_of_le this (Nat.pow_le_pow_right (by omega) (by omega))
    · have hb' : (b * p).natAbs < 2 ^ (k + 7) := by
        rw [Int.natAbs_mul, Nat.pow_add]
        exact Nat.mul_lt_mul'' hb (by omega)
      have ih := scl_bd hp r (b * p) m (k + 7) hb' (fun c hc => h c (List.mem_cons_of_mem _ hc)) x hx
      rw [List.length_cons]
      exact Nat.lt_of_lt_of_le ih (Nat.pow_le_pow_right (by omega) (by omega))
end PM
namespace PM
open PL (leastI leastI_mem leastI_le)
/-- the last number is not 0 -/
def NzL (cs : List Int) : Prop := ∃ x, cs.getLast? = some x ∧ x ≠ 0
theorem NzL.ne {cs : List Int} (h : NzL cs) : cs ≠ [] := fun z => by obtain ⟨x, e, _⟩ := h; rw [z] at e; cases e
theorem NzL.tail {c d : Int} {r : List Int} (h : NzL (c :: d :: r)) : NzL (d :: r) := by
  obtain ⟨x, e, n⟩ := h; exact ⟨x, by rw [List.getLast?_cons_cons] at e; exact e, n⟩
theorem NzL.cons {c : Int} {r : List Int} (h : NzL r) : NzL (c :: r) := by
  cases r with
  | nil => exact absurd rfl h.ne
  | cons d r => obtain ⟨x, e, n⟩ := h; exact ⟨x, by rw [List.getLast?_cons_cons]; exact e, n⟩
theorem NzL.mem {cs : List Int} (h : NzL cs) : ∃ c ∈ cs, c ≠ 0 := by
  obtain ⟨x, e, n⟩ := h; exact ⟨x, List.mem_of_getLast? e, n⟩
theorem syn_nz (d : Int) : ∀ cs : List Int, NzL cs → NzL (syn d cs)
  | [], h => absurd rfl h.ne
  | [c], h => by simpa [syn] using h
  | c :: a :: r, h => by
    have ih := syn_nz d (a :: r) h.tail
    rw [syn]; exact ih.cons
theorem shf_nz (d : Int) : ∀ (n : Nat) (cs : List Int), NzL cs → NzL (shf d n cs)
  | 0, _, h => h
  | n + 1, cs, h => by
    have s := syn_nz d cs h
    rw [shf]
    cases hs : syn d cs with
    | nil => exact absurd hs s.ne
    | cons v q =>
      rw [hs] at s
      cases q with
      | nil =>
        dsimp only
        have : shf d n [] = [] := List.length_eq_zero_iff.mp (by rw [shf_len]; rfl)
        rw [this]; exact s
      | cons a r => exact (shf_nz d n (a :: r) s.tail).cons
theorem scl_nz {p : Int} (hp : p ≠ 0) : ∀ (cs : List Int) (b : Int), b ≠ 0 → NzL cs → NzL (scl p b cs)
  | [], _, _, h => absurd rfl h.ne
  | [c], b, hb, h => by
    obtain ⟨x, e, n⟩ := h
    cases e
    exact ⟨c * b, rfl, Int.mul_ne_zero n hb⟩
  | c :: a :: r, b, hb, h => (scl_nz hp (a :: r) (b * p) (Int.mul_ne_zero hb hp) h.tail).cons
theorem nz_of_map {k : Int} {qs : List Int} (h : NzL (qs.map fun q => k * q)) : NzL qs := by
  obtain ⟨x, e, n⟩ := h
  rw [List.getLast?_map] at e
  cases hq : qs.getLast? with
  | none => rw [hq] at e; cases e
  | some y => rw [hq] at e; cases e; exact ⟨y, hq, fun z => n (by rw [z]; simp)⟩
/-- all numbers so many times divided -/
def dvs (p : Int) (n : Nat) (cs : List Int) : List Int := cs.map fun c => c / p ^ n
theorem dvs_len (p : Int) (n : Nat) (cs : List Int) : (dvs p n cs).length = cs.length := List.length_map ..
noncomputable def exps (p : Int) (cs : List Int) : List Int := (cs.filter fun c => decide (c ≠ 0)).map (vp p)
noncomputable def lfN (p : Int) (cs : List Int) : Nat := (leastI (exps p cs)).toNat
noncomputable def lfQ (p : Int) (cs : List Int) : List Int := dvs p (lfN p cs) cs
theorem lfQ_len (p : Int) (cs : List Int) : (lfQ p cs).length = cs.length := dvs_len ..
theorem exps_ne {p : Int} {cs : List Int} (h : NzL cs) : exps p cs ≠ [] := by
  obtain ⟨c, hc, n⟩ := h.mem
  intro z
  unfold exps at z
  rw [List.map_eq_nil_iff] at z
  have : c ∈ cs.filter fun c => decide (c ≠ 0) := List.mem_filter.mpr ⟨hc, decide_eq_true n⟩
  rw [z] at this; cases this
theorem exps_mem {p x : Int} {cs : List Int} (h : x ∈ exps p cs) : ∃ c ∈ cs, c ≠ 0 ∧ x = vp p c := by
  unfold exps at h
  obtain ⟨c, hc, rfl⟩ := List.mem_map.mp h
  obtain ⟨h1, h2⟩ := List.mem_filter.mp hc
  exact ⟨c, h1, of_decide_eq_true h2, rfl⟩
theorem vp_nn {p c : Int} (hp : 2 ≤ p) (h : c ≠ 0) : 0 ≤ vp p c := by
  obtain ⟨m, v, e, hm, hv⟩ := vp_spec hp h
  rw [hv]; omega
theorem lfN_eq {p : Int} {cs : List Int} (hp : 2 ≤ p) (h : NzL cs) : leastI (exps p cs) = lfN p cs := by
  obtain ⟨c, hc, n, e⟩ := exps_mem (leastI_mem (exps_ne (p := p) h))
  have := vp_nn hp n
  unfold lfN; omega
theorem lfN_dvd {p : Int} {cs : List Int} (hp : 2 ≤ p) (h : NzL cs) : ∀ c ∈ cs, c = p ^ lfN p cs * (c / p ^ lfN p cs) := by
  intro c hc
  have P : p ^ lfN p cs ≠ 0 := Int.pow_ne_zero (by omega)
  by_cases z : c = 0
  · subst z; simp
  · obtain ⟨m, v, e, hm, hv⟩ := vp_spec hp z
    have l : leastI (exps p cs) ≤ vp p c := leastI_le _ (by
      unfold exps
      exact List.mem_map.mpr ⟨c, List.mem_filter.mpr ⟨hc, decide_eq_true z⟩, rfl⟩)
    rw [lfN_eq hp h, hv] at l
    obtain ⟨k, rfl⟩ : ∃ k, v = lfN p cs + k := ⟨v - lfN p cs, by omega⟩
    rw [Int.mul_ediv_cancel']
    exact ⟨m * p ^ k, by rw [e, Int.pow_add]; grind⟩
theorem lfQ_eq {p : Int} {cs : List Int} (hp : 2 ≤ p) (h : NzL cs) : cs = (lfQ p cs).map fun q => p ^ lfN p cs * q := by
  unfold lfQ dvs
  rw [List.map_map]
  conv => lhs; rw [← List.map_id cs]
  exact List.map_congr_left fun c hc => lfN_dvd hp h c hc
theorem lfQ_no {p : Int} {cs : List Int} (hp : 2 ≤ p) (h : NzL cs) : ∃ q ∈ lfQ p cs, q % p ≠ 0 := by
  obtain ⟨c, hc, n, e⟩ := exps_mem (leastI_mem (exps_ne (p := p) h))
  obtain ⟨m, v, e2, hm, hv⟩ := vp_spec hp n
  have l := lfN_eq hp h
  refine ⟨c / p ^ lfN p cs, List.mem_map.mpr ⟨c, hc, rfl⟩, ?_⟩
  have : v = lfN p cs := by rw [hv] at e; omega
  rw [← this, e2, Int.mul_ediv_cancel _ (Int.pow_ne_zero (by omega))]
  exact hm
theorem lfQ_nz {p : Int} {cs : List Int} (hp : 2 ≤ p) (h : NzL cs) : NzL (lfQ p cs) := by
  have e := lfQ_eq hp h
  exact nz_of_map (k := p ^ lfN p cs) (by rw [← e]; exact h)
theorem lfQ_bd {p : Int} {cs : List Int} {m : Nat} (h : ∀ c ∈ cs, c.natAbs < 2 ^ m) : ∀ c ∈ lfQ p cs, c.natAbs < 2 ^ m := by
  intro q hq
  unfold lfQ dvs at hq
  obtain ⟨c, hc, rfl⟩ := List.mem_map.mp hq
  exact Nat.lt_of_le_of_lt (Int.natAbs_ediv_le_natAbs c _) (h c hc)
theorem ev_lfQ {p : Int} {cs : List Int} (hp : 2 ≤ p) (h : NzL cs) (z : Int) : ev cs z = p ^ lfN p cs * ev (lfQ p cs) z := by
  conv => lhs; rw [lfQ_eq hp h]
  exact ev_mul _ z _
/-- seen from one figure more -/
noncomputable def on1 (p : Int) (cs : List Int) (d : Int) : List Int := scl p 1 (shf d (cs.length - 1) cs)
theorem on1_len (p : Int) (cs : List Int) (d : Int) : (on1 p cs d).length = cs.length := by unfold on1; rw [scl_len, shf_len]
theorem on1_nz {p : Int} {cs : List Int} (hp : 2 ≤ p) (h : NzL cs) (d : Int) : NzL (on1 p cs d) := scl_nz (by omega) _ 1 (by omega) (shf_nz d _ cs h)
theorem on1_bd {p : Int} {cs : List Int} {d : Int} {m : Nat} (hp : p.natAbs < 127) (hd : d.natAbs < 127) (hl : cs.length ≤ 9) (h : ∀ c ∈ cs, c.natAbs < 2 ^ m) : ∀ c ∈ on1 p cs d, c.natAbs < 2 ^ (m + 600) := by
  intro c hc
  have b1 := shf_bd (d := d) (by omega) (cs.length - 1) m cs 9 hl h
  have b2 := scl_bd (p := p) (by omega) _ 1 _ 1 (by decide) b1 c hc
  refine Nat.lt_of_lt_of_le b2 (Nat.pow_le_pow_right (by omega) ?_)
  rw [shf_len]
  have : 7 * 9 * (cs.length - 1) ≤ 7 * 9 * 8 := Nat.mul_le_mul_left _ (by omega)
  omega
/-- seen from a stem -/
noncomputable def seeL (p : Int) : Nat × List Int → List Int → Nat × List Int
  | s, [] => s
  | s, d :: ds => seeL p (s.1 + lfN p (on1 p s.2 d), lfQ p (on1 p s.2 d)) ds
noncomputable def see (p : Int) (cs : List Int) (ds : List Int) : Nat × List Int := seeL p (lfN p cs, lfQ p cs) ds
/-- a stem's sum -/
def sm (p : Int) : List Int → Int
  | [] => 0
  | d :: ds => d + p * sm p ds
structure Seen (p : Int) (cs : List Int) (s : Int) (k : Nat) (t : Nat × List Int) : Prop where
  ev : ∀ z, ev cs (s + p ^ k * z) = p ^ t.1 * ev t.2 z
  nz : NzL t.2
  no : ∃ q ∈ t.2, q % p ≠ 0
  len : t.2.length = cs.length
theorem Seen.start {p : Int} {cs : List Int} (hp : 2 ≤ p) (h : NzL cs) : Seen p cs 0 0 (lfN p cs, lfQ p cs) :=
  ⟨fun z => by rw [Int.zero_add, Int.pow_zero, Int.one_mul]; exact ev_lfQ hp h z, lfQ_nz hp h, lfQ_no hp h, lfQ_len ..⟩
end PM
namespace PM
open PySem PySem.Spec L2 PL
open PyProof.Rows hiding St
end PM
set_option Elab.async false
set_option linter.all false
set_option maxRecDepth 100000
set_option autoImplicit false
set_option exponentiation.threshold 20000
namespace PM
open PySem PySem.Spec L2 PL
open PyProof.Rows hiding St
theorem sAug_at {i : Nat} {w : PV → PV → R PV} {f : Rho → R PV} {ρ : Rho} {x y z : PV} (hx : ρ[i]? = some (.val x)) (hf : f ρ = .ok y) (hw : w x y = .ok z) : sAug i w f ρ = .next (ρ.set i (.val z)) := by
  rw [sAug0, hx]; simp only [hf, bind1, hw, st_ok]
theorem sqG {i : Nat} {w : PV → PV → R PV} {f : Rho → R PV} {k : Rho → Out} {ρ : Rho} {o : Out} (x y z : PV) (hx : ρ[i]? = some (.val x)) (hf : f ρ = .ok y) (hw : w x y = .ok z) (g : k (ρ.set i (.val z)) = o) : bSeq (sAug i w f) k ρ = o := sqN (sAug_at hx hf hw) g
end PM
set_option Elab.async false
set_option linter.all false
set_option maxRecDepth 100000
set_option autoImplicit false
set_option exponentiation.threshold 20000
namespace PM
open PySem PySem.Spec L2 PL
open PyProof.Rows hiding St
theorem foN {b : Out} {ρ : Rho} {k : Rho → Out} (h : b = .next ρ) : Out.fo b k = k ρ := by rw [h, fo_next]
theorem last_at0 {l : List Int} (h : l ≠ []) : l.getLast? = some (at0 l (l.length - 1)) := by
  have : 0 < l.length := List.length_pos_iff.mpr h
  unfold at0
  rw [List.getLast?_eq_getElem?, List.getD_eq_getElem?_getD, List.getElem?_eq_getElem (by omega)]
  rfl
theorem NzL.at {l : List Int} (h : NzL l) : at0 l (l.length - 1) ≠ 0 := by
  obtain ⟨x, e, n⟩ := h
  rw [last_at0 (fun z => by rw [z] at e; cases e)] at e
  cases e; exact n
theorem PolyI.nz {cs : List Int} (h : PolyI cs) : NzL cs := by
  have ne : cs ≠ [] := fun z => by have := h.1; rw [z] at this; simp at this
  exact ⟨_, last_at0 ne, fun z => h.2.2 (by rw [last_at0 ne, z])⟩
end PM
namespace PM
open PySem PySem.Spec L2 PL
open PyProof.Rows hiding St
end PM
namespace PM
open PySem PySem.Spec L2 PL
open PyProof.Rows hiding St
theorem tOr_v {t u : Rho → R Bool} {ρ : Rho} (a b : Bool) (h : t ρ = .ok a) (g : u ρ = .ok b) : tOr' t u ρ = .ok (a || b) := by
  rw [tOr_eq, h, bind1, g]; cases a <;> rfl
theorem tAn_v {t u : Rho → R Bool} {ρ : Rho} (a b : Bool) (h : t ρ = .ok a) (g : u ρ = .ok b) : tAn t u ρ = .ok (a && b) := by
  rw [tAn_eq, h, bind1, g]; cases a <;> rfl
end PM
set_option Elab.async false
set_option linter.all false
set_option maxRecDepth 100000
set_option autoImplicit false
namespace PM
open PySem PySem.Spec L2 PL
open PyProof.Rows hiding St
noncomputable def D_odd_roots : Rho → Out := (bSeq (sSet 2 (e2 ixP (eVo 0) (eC (.int 0)))) (bSeq (sSet 3 (e2 fdivP (e2 ixP (eVo 0) (eC (.int 1))) (eC (.int 2)))) (bSeq (sSet 4 (eD F_known_of (aCons (eV 0) aNil))) (bSeq (sSet 5 (eD F_unit_of (aCons (eV 0) aNil))) (bSeq (sSet 6 (eD F_undone (aCons (eV 2) (aCons (e2 mulP (eC (.int 2)) (eVo 1)) aNil)))) (bSeq (sSet 7 (eV 1)) (bSeq (sSet 8 (eV 2)) (bSeq (sFor (iR rng2 (aCons (eC (.int 1)) (aCons (eVo 4) aNil))) (gN 9) (bSeq (sAug 7 (intP (fun _ _ => true) fun a b => .int (a + b)) (e2 mulP (e2 modP (e2 mulP (e2 fdivP (e2 subP (eVo 5) (e2 mulP (eVo 7) (eVo 7))) (eVo 8)) (eVo 6)) (eVo 2)) (eVo 8))) (bSeq (sAug 8 mulP (eVo 2)) bNil))) (bSeq (sRet (eD sortP (aCons (eLc [10] (iS (eD tupP (aCons (eV 7) (aCons (e2 subP (eVo 8) (eVo 7)) aNil)))) (gN 10) cYes (eD F_of_whole (aCons (eV 2) (aCons (eV 3) (aCons (eV 10) (aCons (eV 4) aNil)))))) aNil))) bNil)))))))))
noncomputable def F_odd_roots : List PV → R PV := runF 11 D_odd_roots
noncomputable def D_even_roots : Rho → Out := (bSeq (sSet 1 (e2 fdivP (e2 ixP (eVo 0) (eC (.int 1))) (eC (.int 2)))) (bSeq (sSet 2 (e2 ixP (eVo 0) (eC (.int 2)))) (bSeq (sIf (tB1 (e2 neP (eSl slP (eVo 2) (oSome (eC (.int 1))) (oSome (eC (.int 3)))) (eSl slP (eD tupP (aCons (eC (.int 0)) (aCons (eC (.int 0)) aNil))) oNone (oSome (e2 subP (eD lenP (aCons (eVo 2) aNil)) (eC (.int 1))))))) (bSeq (sRet (eD lstP aNil)) bNil) bNil) (bSeq (sIf (tB1 (e2 ltP (eD lenP (aCons (eVo 2) aNil)) (eC (.int 4)))) (bSeq (sRet (eD lstP (aCons (eD F_left_number (aCons (eC (.int 2)) (aCons (eV 1) (aCons (eD tupP (aCons (eC (.int 1)) aNil)) aNil)))) aNil))) bNil) bNil) (bSeq (sSet 3 (eD F_unit_of (aCons (eV 0) aNil))) (bSeq (sSet 4 (eC (.int 1))) (bSeq (sFor (iR rng2 (aCons (eC (.int 3)) (aCons (eD lenP (aCons (eVo 2) aNil)) aNil))) (gN 5) (bSeq (sIf (tB1 (e2 neP (e2 modP (e2 subP (e2 mulP (eVo 4) (eVo 4)) (eVo 3)) (eD F_power_of (aCons (eC (.int 2)) (aCons (e2 addP (eVo 5) (eC (.int 1))) aNil)))) (eC (.int 0)))) (bSeq (sAug 4 (intP (fun _ _ => true) fun a b => .int (a + b)) (eD F_power_of (aCons (eC (.int 2)) (aCons (e2 subP (eVo 5) (eC (.int 1))) aNil)))) bNil) bNil) bNil)) (bSeq (sSet 6 (e2 subP (eD lenP (aCons (eVo 2) aNil)) (eC (.int 1)))) (bSeq (sRet (eD sortP (aCons (eLc [7] (iS (eD tupP (aCons (eV 4) (aCons (e2 subP (eD F_power_of (aCons (eC (.int 2)) (aCons (eV 6) aNil))) (eVo 4)) aNil)))) (gN 7) cYes (eD F_of_whole (aCons (eC (.int 2)) (aCons (eV 1) (aCons (eV 7) (aCons (eV 6) aNil)))))) aNil))) bNil)))))))))
noncomputable def F_even_roots : List PV → R PV := runF 8 D_even_roots
noncomputable def D_square_roots : Rho → Out := (bSeq (sTo (gT (gsCons (gN 1) (gsCons (gN 2) (gsCons (gN 3) gsNil)))) (eV 0)) (bSeq (sIf (tB1 (e2 eqP (eVo 3) (eD tupP aNil))) (bSeq (sRet (eD lstP (aCons (eD F_left_number (aCons (eV 1) (aCons (e1 negP (e2 fdivP (e1 negP (eVo 2)) (eC (.int 2)))) (aCons (eD tupP aNil) aNil)))) aNil))) bNil) bNil) (bSeq (sIf (tB1 (e2 neP (e2 modP (eVo 2) (eC (.int 2))) (eC (.int 0)))) (bSeq (sRet (eD lstP aNil)) bNil) bNil) (bSeq (sIf (tB1 (e2 eqP (eVo 1) (eC (.int 2)))) (bSeq (sRet (eD F_even_roots (aCons (eV 0) aNil))) bNil) bNil) (bSeq (sFor (iR rng2 (aCons (eC (.int 1)) (aCons (eVo 1) aNil))) (gN 4) (bSeq (sIf (tB1 (e2 eqP (e2 modP (e2 mulP (eVo 4) (eVo 4)) (eVo 1)) (e2 ixP (eVo 3) (eC (.int 0))))) (bSeq (sRet (eD F_odd_roots (aCons (eV 0) (aCons (eV 4) aNil)))) bNil) bNil) bNil)) (bSeq (sRet (eD lstP aNil)) bNil))))))
noncomputable def F_square_roots : List PV → R PV := runF 5 D_square_roots
end PM
set_option Elab.async false
set_option linter.all false
set_option maxRecDepth 100000
set_option autoImplicit false
set_option exponentiation.threshold 20000
namespace PM
open PySem PySem.Spec L2 PL
open PyProof.Rows hiding St
def slo (as : List Int) : List Int := (slp 0 as).drop 1
noncomputable def nxt (p : Int) (t : Nat × List Int) (d : Int) : Nat × List Int := (t.1 + lfN p (on1 p t.2 d), lfQ p (on1 p t.2 d))
/-- what stands at a stem of the tree -/
structure At (m : Nat) (t : Nat × List Int) : Prop where
  nz : NzL t.2
  l2 : 2 ≤ t.2.length
  l9 : t.2.length ≤ 9
  bd : ∀ c ∈ t.2, c.natAbs < 2 ^ m
theorem At.next {p d : Int} {m : Nat} {t : Nat × List Int} (h : At m t) (hp : 2 ≤ p ∧ p < 127) (hd : d.natAbs < 127) : At (m + 600) (nxt p t d) :=
  ⟨lfQ_nz (by omega) (on1_nz (by omega) h.nz d), by show 2 ≤ (lfQ p _).length; rw [lfQ_len, on1_len]; exact h.l2, by show (lfQ p _).length ≤ 9; rw [lfQ_len, on1_len]; exact h.l9, lfQ_bd (on1_bd (by omega) hd h.l9 h.bd)⟩
end PM
set_option Elab.async false
set_option linter.all false
set_option maxRecDepth 100000
set_option autoImplicit false
namespace PM
open PL (leastI leastI_mem leastI_le)
end PM
set_option Elab.async false
set_option linter.all false
set_option maxRecDepth 100000
set_option autoImplicit false
namespace PM
open PL (leastI leastI_mem leastI_le)
def Cg (p : Int) : List Int → List Int → Prop
  | [], [] => True
  | a :: as, b :: bs => p ∣ a - b ∧ Cg p as bs
  | _, _ => False
theorem Cg.refl (p : Int) : ∀ l : List Int, Cg p l l
  | [] => trivial
  | a :: l => ⟨by rw [Int.sub_self]; exact ⟨0, by simp⟩, Cg.refl p l⟩
/-- the derivative -/
def dv : List Int → Int → Int
  | [], _ => 0
  | _ :: r, x => ev r x + x * dv r x
def On (p : Int) (qs : List Int) (d : Int) : Prop := ev qs d % p = 0 ∧ ev (slo qs) d % p = 0
/-- the way to a stem leads on -/
def Pth (p : Int) (cs : List Int) (s : List Int) : Prop := ∀ a e b, s = a ++ e :: b → (0 ≤ e ∧ e < p) ∧ On p (see p cs a).2 e
theorem Pth.nil {p : Int} {cs : List Int} : Pth p cs [] := fun a e b h => by
  have := congrArg List.length h
  simp at this
end PM
set_option Elab.async false
set_option linter.all false
set_option maxRecDepth 100000
set_option autoImplicit false
set_option exponentiation.threshold 20000
namespace PM
open PySem PySem.Spec L2 PL
open PyProof.Rows hiding St
theorem undone_loop {p b : Int} (hp : 0 < p) {m : Nat} (hb : b.natAbs < 2 ^ m) (hm1 : 1 ≤ m) (hm : m ≤ 1000000) (pz : p < 1000) : ∀ (k : Nat) (a : Int) (s2 : Slot), 0 ≤ a → a + k ≤ p → (∃ j : Int, a ≤ j ∧ j < a + k ∧ j * b % p = 1) →
    ∃ t : Int, forL (gN 2) (bSeq (sIf (tB1 (e2 eqP (e2 modP (e2 mulP (eVo 2) (eVo 1)) (eVo 0)) (eC (.int 1)))) (bSeq (sRet (eV 2)) bNil) bNil) bNil) (rngL a k) [.val (.int p), .val (.int b), s2] = .ret (.int t) ∧ a ≤ t ∧ t < p ∧ t * b % p = 1
  | 0, a, s2, _, _, ⟨j, h1, h2, _⟩ => by omega
  | k + 1, a, s2, ha, hk, ⟨j, h1, h2, h3⟩ => by
    have mu : mulP (.int a) (.int b) = .ok (.int (a * b)) := mulP_ii (okMul_of (m := 20) (by omega) hb (by omega) (by omega) (by omega))
    have mo := modP_pos (a := a * b) hp
    by_cases q : a * b % p = 1
    · have q' : (a * b % p == 1) = true := by rw [beq_iff_eq]; exact q
      refine ⟨a, ?_, by omega, by omega, q⟩
      rw [rngL_step, forL_cons, gN_eq, onR_some]
      simp only [List.set_cons_succ, List.set_cons_zero, bSeq_eq, sIf_eq, tB1_eq, e2_eq, eVos, eVo0, eC_eq, bind1, mu, mo, eqP_ii, q', asB_eq, stB_ok, if_true, sRet_eq, eVs, eV0, st_ok, then_ret]
      rfl
    · have q' : (a * b % p == 1) = false := by rw [beq_eq_false_iff_ne]; exact q
      have ja : j ≠ a := fun z => q (by rw [← z]; exact h3)
      obtain ⟨t, i, t1, t2, t3⟩ := undone_loop hp hb hm1 hm pz k (a + 1) (.val (.int a)) (by omega) (by omega) ⟨j, by omega, by omega, h3⟩
      refine ⟨t, ?_, by omega, t2, t3⟩
      rw [← i, rngL_step, forL_cons, gN_eq, onR_some]
      simp only [List.set_cons_succ, List.set_cons_zero, bSeq_eq, sIf_eq, tB1_eq, e2_eq, eVos, eVo0, eC_eq, bind1, mu, mo, eqP_ii, q', asB_eq, stB_ok, if_neg Bool.false_ne_true, bNil_eq, then_next, fo_next]
theorem f_undone {p b : Int} (hp : p ∈ primesL) {m : Nat} (hb : b.natAbs < 2 ^ m) (hm1 : 1 ≤ m) (hm : m ≤ 1000000) (h : b % p ≠ 0) : ∃ t : Int, F_undone [.int p, .int b] = .ok (.int t) ∧ 1 ≤ t ∧ t < p ∧ t * b % p = 1 := by
  have pb := primesL_le p hp
  obtain ⟨j, j1, j2⟩ := inv_ex hp h
  have j0 : j ≠ 0 := fun z => by
    rw [z] at j2
    simp at j2
  obtain ⟨t, i, t1, t2, t3⟩ := undone_loop (p := p) (by omega) hb hm1 hm (by omega) (p - 1).toNat 1 .un (by omega) (by omega) ⟨j, by omega, by omega, by rw [Int.mul_comm]; exact j2⟩
  refine ⟨t, ?_, t1, t2, t3⟩
  have r2 : rng2 [.int 1, .int p] = .ok (rngL 1 (p - 1).toNat) := rng2_sm (by omega) (by omega) (by omega) (by omega)
  refine (runF_eq (n := 3) (u := D_undone)).trans ?_
  show (D_undone [.val (.int p), .val (.int b), .un]).res = _
  unfold D_undone
  rw [bSeq_eq, sFor_eq, show iR rng2 (aCons (eC (.int 1)) (aCons (eVo 0) aNil)) [.val (.int p), .val (.int b), .un] = .ok (rngL 1 (p - 1).toNat) by simp only [iR_eq, aCons_eq, aNil_eq, eC_eq, eVo0, bind1, r2], stL_ok, i, then_ret, res_ret]
end PM
set_option Elab.async false
set_option linter.all false
set_option maxRecDepth 100000
set_option autoImplicit false
set_option exponentiation.threshold 20000
namespace PM
open PySem PySem.Spec L2 PL
open PyProof.Rows hiding St
theorem toDs_ints : ∀ l : List Int, toDs (l.map PV.int) = l.map PyData.int
  | [] => by rw [List.map_nil, List.map_nil, toDs]
  | x :: l => by rw [List.map_cons, List.map_cons, toDs, toDs_ints l, toD]
theorem ok_stem (l : List Int) : okD 30 (.tup (l.map PV.int)) = true := by rw [okD_tup]; simp
theorem alike_stem (a b : List Int) : PySem.W.alike (toD (.tup (a.map PV.int))) (toD (.tup (b.map PV.int))) = true := by
  rw [toD, toD, toDs_ints, toDs_ints, PySem.W.alike]
  exact PySem.W.alike_ints a b
theorem lc_rows {α : Type} {tgt : PV → Rho → Option Rho} {elt : Rho → R PV} {ρ : Rho} (f g : α → PV) : ∀ l : List α, (∀ r ∈ l, ∃ ρ', tgt (f r) ρ = some ρ' ∧ elt ρ' = .ok (g r)) → lcGo tgt cYes elt ρ (l.map f) = .ok (l.map g)
  | [], _ => rfl
  | r :: l, h => by
    obtain ⟨ρ', h1, h2⟩ := h r List.mem_cons_self
    have ih := lc_rows f g l fun q hq => h q (List.mem_cons_of_mem _ hq)
    rw [List.map_cons, List.map_cons]
    unfold lcGo
    rw [h1]
    dsimp only [cYes]
    rw [h2]
    dsimp only
    rw [ih]
theorem lc_rowsF {α : Type} {tgt : PV → Rho → Option Rho} {test : Rho → R Bool} {elt : Rho → R PV} {ρ : Rho} (f g : α → PV) (c : α → Bool) : ∀ l : List α, (∀ r ∈ l, ∃ ρ', tgt (f r) ρ = some ρ' ∧ test ρ' = .ok (c r) ∧ (c r = true → elt ρ' = .ok (g r))) → lcGo tgt test elt ρ (l.map f) = .ok ((l.filter c).map g)
  | [], _ => rfl
  | r :: l, h => by
    obtain ⟨ρ', h1, h2, h3⟩ := h r List.mem_cons_self
    have ih := lc_rowsF f g c l fun q hq => h q (List.mem_cons_of_mem _ hq)
    rw [List.map_cons]
    unfold lcGo
    rw [h1]
    dsimp only
    rw [h2]
    cases hc : c r with
    | false => dsimp only; rw [ih, List.filter_cons_of_neg (by rw [hc]; decide)]
    | true =>
      dsimp only
      rw [h3 hc]
      dsimp only
      rw [ih, List.filter_cons_of_pos hc, List.map_cons]
theorem stemL (l : List Int) : lenP [.tup (l.map PV.int)] = .ok (.int l.length) := by simp
end PM
set_option Elab.async false
set_option linter.all false
set_option maxRecDepth 100000
set_option autoImplicit false
set_option exponentiation.threshold 20000
namespace PM
open PySem PySem.Spec L2 PL
open PyProof.Rows hiding St
theorem leP_total : PySem.W.TotalLe leP' := PySem.W.sortLe_total (PyProof.Rows.listOrd PyProof.Rows.itemOrd) false fun q => PySem.W.keyToks (toD q)
end PM
set_option Elab.async false
set_option linter.all false
set_option maxRecDepth 100000
set_option autoImplicit false
set_option exponentiation.threshold 20000
namespace PM
open PySem PySem.Spec L2 PL
open PyProof.Rows hiding St
theorem perm_two {α : Type} {S : List α} {A B : α} (h : S.Perm [A, B]) : S = [A, B] ∨ S = [B, A] := by
  have hl := h.length_eq
  match S, hl with
  | [x, y], _ =>
    have hx : x ∈ [A, B] := h.mem_iff.mp List.mem_cons_self
    rcases List.mem_cons.mp hx with rfl | hx
    · have := h.cons_inv
      rw [List.perm_singleton] at this
      exact .inl (by rw [this])
    · have hx := List.mem_singleton.mp hx
      subst hx
      have h' := h.trans (List.Perm.swap x A [])
      have := h'.cons_inv
      rw [List.perm_singleton] at this
      exact .inr (by rw [this])
theorem okD_leftV (p e : Int) (ds : List Int) (n : Nat) : okD (n + 2) (leftV p e ds) = true := by unfold leftV; simp
theorem toD_left (p e : Int) (ds : List Int) : toD (leftV p e ds) = .tuple [.int p, .int e, toD (.tup (ds.map PV.int))] := by
  unfold leftV; rw [toD, toDs, toDs, toDs, toDs, toD, toD]
theorem alike_left (p e : Int) (ds : List Int) (q f : Int) (es : List Int) : PySem.W.alike (toD (leftV p e ds)) (toD (leftV q f es)) = true := by
  have := alike_stem ds es
  rw [toD_left, toD_left, PySem.W.alike]
  simp only [PySem.W.alikeAll, this, PySem.W.alike, Bool.and_true, Bool.and_self]
def isLV (q : PV) : Prop := ∃ p e ds, q = leftV p e ds
theorem sort_lefts {l : List PV} (h : ∀ q ∈ l, isLV q) : sortP [.lst l] = .ok (.lst (l.mergeSort leP')) := by
  have ok : l.all (okD 30) = true := by
    rw [List.all_eq_true]
    intro q hq
    obtain ⟨p, e, ds, rfl⟩ := h q hq
    exact okD_leftV p e ds 28
  have al : (l.all fun p => l.all fun q => PySem.W.alike (toD p) (toD q)) = true := by
    rw [List.all_eq_true]
    intro x hx
    rw [List.all_eq_true]
    intro y hy
    obtain ⟨p, e, ds, rfl⟩ := h x hx
    obtain ⟨q, f, es, rfl⟩ := h y hy
    exact alike_left ..
  have tp : l.all isTp = true := by
    rw [List.all_eq_true]
    intro q hq
    obtain ⟨p, e, ds, rfl⟩ := h q hq
    rfl
  unfold sortP
  dsimp only
  rw [if_pos (by rw [ok, al, tp]; rfl)]
theorem sort_two {A B : PV} (hA : isLV A) (hB : isLV B) : ∃ S, sortP [.lst [A, B]] = .ok (.lst S) ∧ (S = [A, B] ∨ S = [B, A]) ∧ sortP [.lst S] = .ok (.lst S) := by
  have h : ∀ q ∈ [A, B], isLV q := fun q hq => by
    rcases List.mem_cons.mp hq with rfl | hq
    · exact hA
    · rw [List.mem_singleton.mp hq]; exact hB
  have pm := List.mergeSort_perm [A, B] leP'
  refine ⟨_, sort_lefts h, perm_two pm, ?_⟩
  rw [sort_lefts fun q hq => h q (pm.mem_iff.mp hq), List.mergeSort_of_pairwise (PySem.W.sort_pairwise leP_total _)]
/-- a root so far: r times r is u but for p's power n -/
structure Sq (p : Int) (n m : Nat) (u r : Int) : Prop where
  lo : 0 < r
  hi : r < p ^ m
  nz : r % p ≠ 0
  sq : p ^ n ∣ r * r - u
theorem lead_of {p x : Int} {n : Nat} (h : 1 ≤ n) (hx : x % p ≠ 0) : lead (digs p x n) = 0 ∧ strip (digs p x n) = digs p x n := lead_nz (by
  rw [digs_head p x h]
  intro z
  exact hx (Option.some.inj z))
theorem f_of_whole_u {p e x : Int} {n : Nat} (hp : p ∈ primesL) (h1 : 1 ≤ n) (hn : n ≤ 5000) (hx : x % p ≠ 0) : F_of_whole [.int p, .int e, .int x, .int n] = .ok (leftV p e (digs p x n)) := by
  obtain ⟨l1, l2⟩ := lead_of h1 hx
  rw [f_of_whole p e x n hp hn, l1, l2]
  simp
structure OddI (p u a : Int) (k : Nat) (r : Int) : Prop where
  lo : 0 < r
  hi : r < p ^ k
  fi : p ∣ r - a
  sq : p ^ k ∣ u - r * r
theorem odd_step {p u a t : Int} (hp : 2 ≤ p) (ht : t * (2 * a) % p = 1) {k : Nat} (k1 : 1 ≤ k) {r : Int} (h : OddI p u a k r) :
    OddI p u a (k + 1) (r + (u - r * r) / p ^ k * t % p * p ^ k) := by
  obtain ⟨q, hq⟩ := h.sq
  have P0 : 0 < p ^ k := Int.pow_pos (by omega)
  have eq : (u - r * r) / p ^ k = q := by rw [hq, Int.mul_ediv_cancel_left _ (by omega)]
  rw [eq]
  obtain ⟨g, hg⟩ : ∃ g, g = q * t % p := ⟨_, rfl⟩
  rw [← hg]
  have g0 : 0 ≤ g := by rw [hg]; exact Int.emod_nonneg _ (by omega)
  have g1 : g < p := by rw [hg]; exact Int.emod_lt_of_pos _ (by omega)
  have gp := Int.mul_nonneg g0 (show 0 ≤ p ^ k by omega)
  obtain ⟨k', rfl⟩ : ∃ k', k = k' + 1 := ⟨k - 1, by omega⟩
  refine ⟨by have := h.lo; omega, ?_, ?_, ?_⟩
  · have : (g + 1) * p ^ (k' + 1) ≤ p * p ^ (k' + 1) := Int.mul_le_mul_of_nonneg_right (by omega) (by omega)
    rw [Int.pow_succ p (k' + 1)]
    have := h.hi
    grind
  · obtain ⟨w, hw⟩ := h.fi
    exact ⟨w + g * p ^ k', by rw [Int.pow_succ]; grind⟩
  · obtain ⟨w, hw⟩ := h.fi
    obtain ⟨y, hy⟩ : ∃ y, t * (2 * a) = 1 + p * y := ⟨t * (2 * a) / p, by have := Int.mul_ediv_add_emod (t * (2 * a)) p; omega⟩
    obtain ⟨x, hx⟩ : ∃ x, g = q * t + p * x := ⟨-(q * t / p), by have := Int.mul_ediv_add_emod (q * t) p; rw [hg]; grind⟩
    obtain ⟨P, hP⟩ : ∃ P, P = p ^ (k' + 1) := ⟨_, rfl⟩
    have e1 : P = p * p ^ k' := by rw [hP, Int.pow_succ]; grind
    rw [Int.pow_succ p (k' + 1), ← hP]
    rw [← hP] at hq
    have er : r = a + p * w := by omega
    -- q - 2 r g is a multiple of p
    have key : q - 2 * r * g = p * (-(q * y) - 2 * a * x - 2 * w * g) := by
      have : 2 * a * g = q * (t * (2 * a)) + 2 * a * (p * x) := by rw [hx]; grind
      rw [er]
      rw [hy] at this
      grind
    have fin : u - (r + g * P) * (r + g * P) = P * (q - 2 * r * g) - P * (g * g * P) := by grind
    rw [fin, key]
    exact ⟨-(q * y) - 2 * a * x - 2 * w * g - g * g * p ^ k', by
      have : P * (g * g * P) = P * p * (g * g * p ^ k') := by
        conv => lhs; rw [show P * (g * g * P) = P * (g * g) * P by grind, show P * (g * g) * P = P * (g * g) * (p * p ^ k') by rw [← e1]]
        grind
      rw [this]; grind⟩
theorem odd_loop {p u a t : Int} (hp : 2 ≤ p ∧ p ≤ 97) (ht : t * (2 * a) % p = 1) (tb : 1 ≤ t ∧ t < p) (ub : u.natAbs < 2 ^ 7001) (X Y L M : PV) : ∀ (n j : Nat) (b : Int) (r : Int) (s9 : Slot), 1 ≤ j → j + n ≤ 1000 → OddI p u a j r →
    ∃ r' s9', forL (gN 9) (bSeq (sAug 7 (intP (fun _ _ => true) fun a b => .int (a + b)) (e2 mulP (e2 modP (e2 mulP (e2 fdivP (e2 subP (eVo 5) (e2 mulP (eVo 7) (eVo 7))) (eVo 8)) (eVo 6)) (eVo 2)) (eVo 8))) (bSeq (sAug 8 mulP (eVo 2)) bNil)) (rngL b n) [.val X, .val Y, .val (.int p), .val L, .val M, .val (.int u), .val (.int t), .val (.int r), .val (.int (p ^ j)), s9, .un] = .next [.val X, .val Y, .val (.int p), .val L, .val M, .val (.int u), .val (.int t), .val (.int r'), .val (.int (p ^ (j + n))), s9', .un] ∧ OddI p u a (j + n) r' ∧ (s9' = s9 ∨ ∃ q, s9' = .val q)
  | 0, j, b, r, s9, _, _, h => ⟨r, s9, rfl, h, .inl rfl⟩
  | n + 1, j, b, r, s9, j1, jn, h => by
    obtain ⟨r', s9', ih, h', q9⟩ := odd_loop hp ht tb ub X Y L M n (j + 1) (b + 1) _ (.val (.int b)) (by omega) (by omega) (odd_step (by omega) ht j1 h)
    rw [show j + 1 + n = j + (n + 1) by omega] at ih h'
    refine ⟨r', s9', ?_, h', .inr (by rcases q9 with q | q; exact ⟨_, q⟩; exact q)⟩
    have pw : (p ^ j).natAbs < 2 ^ 7001 := Nat.lt_of_lt_of_le (pow_bound (m := 7) (by omega) _) (Nat.pow_le_pow_right (by omega) (by omega))
    have rb : r.natAbs < 2 ^ 7001 := by have := h.lo; have := h.hi; omega
    have P0 : 0 < p ^ j := Int.pow_pos (by omega)
    have P9 : p ^ j < 2 ^ 9000 := by
      have : (2 : Nat) ^ 7001 ≤ 2 ^ 9000 := Nat.pow_le_pow_right (by omega) (by omega)
      have e2 : ((2 ^ 9000 : Nat) : Int) = (2 : Int) ^ 9000 := by simp
      omega
    have m1 : mulP (.int r) (.int r) = .ok (.int (r * r)) := mulP_ii (okMul_of rb rb (by omega) (by omega) (by omega))
    have d1 := fdivP_pos (a := u - r * r) P0 P9
    have rr := mul_bound rb rb
    obtain ⟨q, hq⟩ : ∃ q, q = (u - r * r) / p ^ j := ⟨_, rfl⟩
    have qb : q.natAbs < 2 ^ 14004 := Nat.lt_of_le_of_lt (by rw [hq]; exact Int.natAbs_ediv_le_natAbs _ _) (by
      have := Int.natAbs_sub_le u (r * r)
      have e1 : (2 : Nat) ^ 7001 ≤ 2 ^ (7001 + 7001) := Nat.pow_le_pow_right (by omega) (by omega)
      have e2 : (2 : Nat) ^ (7001 + 7001) * 4 = 2 ^ 14004 := by rw [show (4 : Nat) = 2 ^ 2 from rfl, ← Nat.pow_add]
      omega)
    have m2 : mulP (.int q) (.int t) = .ok (.int (q * t)) := mulP_ii (okMul_of (n := 7) qb (by omega) (by omega) (by omega) (by omega))
    have mo := modP_pos (a := q * t) (b := p) (by omega)
    have mb : (q * t % p).natAbs < 2 ^ 7 := by have := Int.emod_nonneg (q * t) (show p ≠ 0 by omega); have := Int.emod_lt_of_pos (q * t) (show 0 < p by omega); omega
    have m3 : mulP (.int (q * t % p)) (.int (p ^ j)) = .ok (.int (q * t % p * p ^ j)) := mulP_ii (okMul_of mb pw (by omega) (by omega) (by omega))
    have m4 : mulP (.int (p ^ j)) (.int p) = .ok (.int (p ^ (j + 1))) := by rw [mulP_ii (okMul_of (n := 7) pw (by omega) (by omega) (by omega) (by omega)), Int.pow_succ]
    rw [← hq] at d1 ih
    rw [← ih, rngL_step, forL_cons, gN_eq, onR_some]
    simp only [List.set_cons_succ, List.set_cons_zero]
    refine foN ?_
    refine sqG (.int r) (.int (q * t % p * p ^ j)) (.int (r + q * t % p * p ^ j)) rfl (by simp only [e2_eq, eVos, eVo0, bind1, m1, subP_ii, d1, m2, mo, m3]) iadd_ii ?_
    simp only [List.set_cons_succ, List.set_cons_zero]
    refine sqG (.int (p ^ j)) (.int p) (.int (p ^ (j + 1))) rfl (by simp only [eVos, eVo0]) m4 ?_
    simp only [List.set_cons_succ, List.set_cons_zero, bNil_eq]
theorem other_root {p u r : Int} {n m : Nat} (hp : 2 ≤ p) (hm : 1 ≤ m) (h1 : p ^ n ∣ 2 * r * p ^ m) (h2 : n ≤ 2 * m) (h : Sq p n m u r) : Sq p n m u (p ^ m - r) := by
  have lo := h.lo
  have hi := h.hi
  refine ⟨by omega, by omega, ?_, ?_⟩
  · obtain ⟨m', rfl⟩ : ∃ m', m = m' + 1 := ⟨m - 1, by omega⟩
    intro z
    apply h.nz
    obtain ⟨w, hw⟩ := Int.dvd_of_emod_eq_zero z
    refine Int.emod_eq_zero_of_dvd ⟨p ^ m' - w, ?_⟩
    rw [Int.pow_succ] at hw
    grind
  · obtain ⟨w, hw⟩ := h1
    obtain ⟨x, hx⟩ := h.sq
    have e : p ^ m * p ^ m = p ^ n * p ^ (2 * m - n) := by rw [← Int.pow_add, ← Int.pow_add]; congr 1; omega
    exact ⟨p ^ (2 * m - n) - w + x, by
      have : (p ^ m - r) * (p ^ m - r) - u = p ^ m * p ^ m - 2 * r * p ^ m + (r * r - u) := by grind
      rw [this, e, hw, hx]; grind⟩
theorem f_odd_roots {p e a : Int} {ds : List Int} {n : Nat} (h : Lf p ds n) (hn : n ≤ 1000) (hp2 : 3 ≤ p) (hd : ds ≠ []) (ha : 1 ≤ a ∧ a < p) (hs : a * a % p = ds.headD 0) :
    ∃ r, Sq p ds.length ds.length (U p ds) r ∧ F_odd_roots [leftV p e ds, .int a] = sortP [.lst [leftV p (e / 2) (digs p r ds.length), leftV p (e / 2) (digs p (p ^ ds.length - r) ds.length)]] := by
  have pb := h.b
  have hl := h.len
  have fu := f_unit p e ds pb.1 pb.2 h.dg (by omega)
  have fk := f_known p e ds
  obtain ⟨x0, x1, x2⟩ := ixT p e ds
  have l1 : 1 ≤ ds.length := List.length_pos_iff.mpr hd
  have ub : (U p ds).natAbs < 2 ^ 7001 := by
    have := U_nonneg pb.1 h.dg
    have pw : (p ^ ds.length).natAbs < 2 ^ 7001 := Nat.lt_of_lt_of_le (pow_bound (m := 7) (by omega) _) (Nat.pow_le_pow_right (by omega) (by omega))
    omega
  have a2 : 2 * a % p ≠ 0 := by
    have e2 : (2 : Int) % p ≠ 0 := by rw [Int.emod_eq_of_lt (by omega) (by omega)]; omega
    have ea : a % p ≠ 0 := by rw [Int.emod_eq_of_lt (by omega) (by omega)]; omega
    exact prime_mulI h.pr e2 ea
  obtain ⟨t, ft, t1, t2, t3⟩ := f_undone h.pr (b := 2 * a) (m := 9) (by omega) (by omega) (by omega) a2
  have O1 : OddI p (U p ds) a 1 a := ⟨by omega, by rw [Int.pow_one]; omega, ⟨0, by simp⟩, by
    rw [Int.pow_one]
    cases ds with
    | nil => exact absurd rfl hd
    | cons d r =>
      rw [List.headD_cons] at hs
      rw [U_cons, ← hs]
      have := Int.mul_ediv_add_emod (a * a) p
      exact ⟨U p r - a * a / p, by grind⟩⟩
  obtain ⟨V, hV⟩ : ∃ V, V = leftV p e ds := ⟨_, rfl⟩
  obtain ⟨r, s9, i, Or', q9⟩ := odd_loop (p := p) (u := U p ds) (a := a) (t := t) pb t3 ⟨t1, t2⟩ ub V (.int a) (.int (e / 2)) (.int ds.length) (ds.length - 1) 1 1 a .un (by omega) (by omega) O1
  rw [show 1 + (ds.length - 1) = ds.length by omega, Int.pow_one] at i
  rw [show 1 + (ds.length - 1) = ds.length by omega] at Or'
  have S : Sq p ds.length ds.length (U p ds) r := ⟨Or'.lo, Or'.hi, fun z => by
    obtain ⟨w, hw⟩ := Or'.fi
    obtain ⟨y, hy⟩ := Int.dvd_of_emod_eq_zero z
    have : a % p = 0 := Int.emod_eq_zero_of_dvd ⟨y - w, by grind⟩
    rw [Int.emod_eq_of_lt (by omega) (by omega)] at this
    omega, by obtain ⟨w, hw⟩ := Or'.sq; exact ⟨-w, by grind⟩⟩
  have S2 := other_root (by omega) l1 ⟨2 * r, by grind⟩ (by omega) S
  refine ⟨r, S, ?_⟩
  have w1 := f_of_whole_u (e := e / 2) h.pr l1 (by omega) S.nz
  have w2 := f_of_whole_u (e := e / 2) h.pr l1 (by omega) S2.nz
  have go : lcGo (gN 10) cYes (eD F_of_whole (aCons (eV 2) (aCons (eV 3) (aCons (eV 10) (aCons (eV 4) aNil))))) [.val V, .val (.int a), .val (.int p), .val (.int (e / 2)), .val (.int ds.length), .val (.int (U p ds)), .val (.int t), .val (.int r), .val (.int (p ^ ds.length)), s9, .un] ([r, p ^ ds.length - r].map PV.int) = .ok ([r, p ^ ds.length - r].map fun x => leftV p (e / 2) (digs p x ds.length)) :=
    lc_rows PV.int _ _ fun x hx => ⟨[.val V, .val (.int a), .val (.int p), .val (.int (e / 2)), .val (.int ds.length), .val (.int (U p ds)), .val (.int t), .val (.int r), .val (.int (p ^ ds.length)), s9, .val (.int x)], rfl, by
      rcases List.mem_cons.mp hx with rfl | hx
      · simp only [eD_eq, aCons_eq, aNil_eq, eVs, eV0, bind1, w1]
      · rw [List.mem_singleton.mp hx]
        simp only [eD_eq, aCons_eq, aNil_eq, eVs, eV0, bind1, w2]⟩
  have L := eLc_ok (vs := [10]) (it := iS (eD tupP (aCons (eV 7) (aCons (e2 subP (eVo 8) (eVo 7)) aNil)))) (ρ := [.val V, .val (.int a), .val (.int p), .val (.int (e / 2)), .val (.int ds.length), .val (.int (U p ds)), .val (.int t), .val (.int r), .val (.int (p ^ ds.length)), s9, .un]) (items := [r, p ^ ds.length - r].map PV.int) rfl (by simp only [iS_eq, eD_eq, aCons_eq, aNil_eq, e2_eq, eVs, eV0, eVos, eVo0, bind1, subP_ii, tupP2, asS_t]; rfl) (by simp) go
  have d2 := fdivP_sm (a := e) (b := 2) (by omega) (by omega)
  have m2 : mulP (.int 2) (.int a) = .ok (.int (2 * a)) := mulP_sm (by omega) (by omega) (by omega) (by omega)
  have rg : rng2 [.int 1, .int (ds.length : Int)] = .ok (rngL 1 (ds.length - 1)) := by rw [rng2_all, show ((ds.length : Int) - 1).toNat = ds.length - 1 by omega]
  obtain ⟨T, sT, _, _⟩ := sort_two (A := leftV p (e / 2) (digs p r ds.length)) (B := leftV p (e / 2) (digs p (p ^ ds.length - r) ds.length)) ⟨_, _, _, rfl⟩ ⟨_, _, _, rfl⟩
  have sT' : sortP [.lst ([r, p ^ ds.length - r].map fun x => leftV p (e / 2) (digs p x ds.length))] = .ok (.lst T) := sT
  rw [sT]
  rw [← hV] at fu fk x0 x1 ⊢
  refine (runF_eq (n := 11) (u := D_odd_roots)).trans ?_
  show (D_odd_roots [.val V, .val (.int a), .un, .un, .un, .un, .un, .un, .un, .un, .un]).res = _
  unfold D_odd_roots
  refine stp (.int p) (by simp only [e2_eq, eVo0, eC_eq, bind1, x0]) ?_
  simp only [List.set_cons_succ, List.set_cons_zero]
  refine stp (.int (e / 2)) (by simp only [e2_eq, eVo0, eC_eq, bind1, x1, d2]) ?_
  simp only [List.set_cons_succ, List.set_cons_zero]
  refine stp (.int ds.length) (by simp only [eD_eq, aCons_eq, aNil_eq, eV0, bind1, fk]) ?_
  simp only [List.set_cons_succ, List.set_cons_zero]
  refine stp (.int (U p ds)) (by simp only [eD_eq, aCons_eq, aNil_eq, eV0, bind1, fu]) ?_
  simp only [List.set_cons_succ, List.set_cons_zero]
  refine stp (.int t) (by simp only [eD_eq, aCons_eq, aNil_eq, e2_eq, eVs, eV0, eVos, eVo0, eC_eq, bind1, m2, ft]) ?_
  simp only [List.set_cons_succ, List.set_cons_zero]
  refine stp (.int a) (by simp only [eVs, eV0]) ?_
  simp only [List.set_cons_succ, List.set_cons_zero]
  refine stp (.int p) (by simp only [eVs, eV0]) ?_
  simp only [List.set_cons_succ, List.set_cons_zero]
  refine stpFor (rngL 1 (ds.length - 1)) _ (by simp only [iR_eq, aCons_eq, aNil_eq, eC_eq, eVos, eVo0, bind1, rg]) i ?_
  simp only [bSeq_eq, sRet_eq, eD_eq, aCons_eq, aNil_eq, L, bind1, sT', st_ok, then_ret, res_ret]
def sq2 (ds : List Int) : Bool := (ds.drop 1).take 2 == ([0, 0] : List Int).take (ds.length - 1)
structure EvI (u : Int) (j : Nat) (r : Int) : Prop where
  lo : 0 < r
  hi : r < 2 ^ (j - 1)
  od : r % 2 = 1
  sq : (2 : Int) ^ j ∣ r * r - u
theorem even_step {u : Int} {j : Nat} (j3 : 3 ≤ j) {r : Int} (h : EvI u j r) : EvI u (j + 1) (if (r * r - u) % 2 ^ (j + 1) = 0 then r else r + 2 ^ (j - 1)) := by
  have lo := h.lo
  have hi := h.hi
  have od := h.od
  obtain ⟨j', rfl⟩ : ∃ j', j = j' + 1 := ⟨j - 1, by omega⟩
  rw [show j' + 1 - 1 = j' by omega] at hi ⊢
  have P0 : (0 : Int) < 2 ^ j' := Int.pow_pos (by omega)
  have P1 : (2 : Int) ^ (j' + 1) = 2 * 2 ^ j' := by rw [Int.pow_succ]; grind
  have P2 : (2 : Int) ^ (j' + 1 + 1) = 4 * 2 ^ j' := by rw [Int.pow_succ, P1]; grind
  have j2 : (2 : Int) ^ j' % 2 = 0 := by
    obtain ⟨i, rfl⟩ : ∃ i, j' = i + 1 := ⟨j' - 1, by omega⟩
    rw [Int.pow_succ]; omega
  by_cases c : (r * r - u) % 2 ^ (j' + 1 + 1) = 0
  · rw [if_pos c]
    refine ⟨lo, ?_, od, Int.dvd_of_emod_eq_zero c⟩
    rw [show j' + 1 + 1 - 1 = j' + 1 by omega, P1]; omega
  · rw [if_neg c]
    refine ⟨by omega, ?_, by omega, ?_⟩
    · rw [show j' + 1 + 1 - 1 = j' + 1 by omega, P1]; omega
    · obtain ⟨x, hx⟩ := h.sq
      -- x is odd
      have xo : x % 2 = 1 := by
        by_cases e : x % 2 = 0
        · exfalso
          obtain ⟨y, hy⟩ := Int.dvd_of_emod_eq_zero e
          exact c (Int.emod_eq_zero_of_dvd ⟨y, by rw [hx, hy, P1, P2]; grind⟩)
        · omega
      obtain ⟨y, hy⟩ : ∃ y, x + r = 2 * y := ⟨(x + r) / 2, by omega⟩
      obtain ⟨i, rfl⟩ : ∃ i, j' = i + 2 := ⟨j' - 2, by omega⟩
      refine ⟨y + 2 ^ i, ?_⟩
      have q4 : (2 : Int) ^ (i + 2) = 4 * 2 ^ i := by rw [Int.pow_succ, Int.pow_succ]; grind
      rw [P2]
      rw [P1] at hx
      obtain ⟨Q, hQ⟩ : ∃ Q : Int, Q = 2 ^ i := ⟨_, rfl⟩
      rw [q4, ← hQ] at hx ⊢
      have hr : r = 2 * y - x := by omega
      have : (r + 4 * Q) * (r + 4 * Q) - u = (r * r - u) + 8 * Q * r + 16 * Q * Q := by grind
      rw [this, hx, hr]
      grind
theorem even_loop {u : Int} (ub : u.natAbs < 2 ^ 7001) (X L G : PV) : ∀ (n j : Nat) (r : Int) (s5 : Slot), 3 ≤ j → j + n ≤ 1000 → EvI u j r →
    ∃ r' s5', forL (gN 5) (bSeq (sIf (tB1 (e2 neP (e2 modP (e2 subP (e2 mulP (eVo 4) (eVo 4)) (eVo 3)) (eD F_power_of (aCons (eC (.int 2)) (aCons (e2 addP (eVo 5) (eC (.int 1))) aNil)))) (eC (.int 0)))) (bSeq (sAug 4 (intP (fun _ _ => true) fun a b => .int (a + b)) (eD F_power_of (aCons (eC (.int 2)) (aCons (e2 subP (eVo 5) (eC (.int 1))) aNil)))) bNil) bNil) bNil) (rngL j n) [.val X, .val L, .val G, .val (.int u), .val (.int r), s5, .un, .un] = .next [.val X, .val L, .val G, .val (.int u), .val (.int r'), s5', .un, .un] ∧ EvI u (j + n) r'
  | 0, j, r, s5, _, _, h => ⟨r, s5, rfl, h⟩
  | n + 1, j, r, s5, j3, jn, h => by
    obtain ⟨r', s5', ih, h'⟩ := even_loop ub X L G n (j + 1) _ (.val (.int j)) (by omega) (by omega) (even_step j3 h)
    rw [show j + 1 + n = j + (n + 1) by omega] at h'
    rw [show ((j + 1 : Nat) : Int) = (j : Int) + 1 by omega] at ih
    refine ⟨r', s5', ?_, h'⟩
    have pw : ((2 : Int) ^ (j - 1)).natAbs < 2 ^ 7001 := Nat.lt_of_lt_of_le (pow_bound (m := 2) (by omega) _) (Nat.pow_le_pow_right (by omega) (by omega))
    have rb : r.natAbs < 2 ^ 7001 := by have := h.lo; have := h.hi; omega
    have m1 : mulP (.int r) (.int r) = .ok (.int (r * r)) := mulP_ii (okMul_of rb rb (by omega) (by omega) (by omega))
    have p1 := f_power_of 2 ((j : Int) + 1) (by omega) (by omega) (by omega)
    rw [show ((j : Int) + 1).toNat = j + 1 by omega] at p1
    have p2 := f_power_of 2 ((j : Int) - 1) (by omega) (by omega) (by omega)
    rw [show ((j : Int) - 1).toNat = j - 1 by omega] at p2
    have mo := modP_pos (a := r * r - u) (b := 2 ^ (j + 1)) (Int.pow_pos (by omega))
    rw [← ih, rngL_step, forL_cons, gN_eq, onR_some]
    simp only [List.set_cons_succ, List.set_cons_zero]
    refine foN ?_
    refine sqN (ρ' := [.val X, .val L, .val G, .val (.int u), .val (.int (if (r * r - u) % 2 ^ (j + 1) = 0 then r else r + 2 ^ (j - 1))), .val (.int j), .un, .un]) ?_ (by rw [bNil_eq])
    rw [sIf_eq]
    by_cases c : (r * r - u) % 2 ^ (j + 1) = 0
    · have c' : ((r * r - u) % 2 ^ (j + 1) == 0) = true := by rw [beq_iff_eq]; exact c
      rw [if_pos c]
      simp only [tB1_eq, e2_eq, eD_eq, aCons_eq, aNil_eq, eVos, eVo0, eC_eq, bind1, m1, subP_ii, addP_ii, p1, mo, neP_ii, c', Bool.not_true, asB_eq, stB_ok, if_neg Bool.false_ne_true, bNil_eq]
    · have c' : ((r * r - u) % 2 ^ (j + 1) == 0) = false := by rw [beq_eq_false_iff_ne]; exact c
      rw [if_neg c]
      simp only [tB1_eq, e2_eq, eD_eq, aCons_eq, aNil_eq, eVos, eVo0, eC_eq, bind1, m1, subP_ii, addP_ii, p1, mo, neP_ii, c', Bool.not_false, asB_eq, stB_ok, if_true]
      refine sqG (.int r) (.int (2 ^ (j - 1))) (.int (r + 2 ^ (j - 1))) rfl (by simp only [eD_eq, aCons_eq, aNil_eq, e2_eq, eVos, eVo0, eC_eq, bind1, subP_ii, p2]) iadd_ii ?_
      simp only [List.set_cons_succ, List.set_cons_zero, bNil_eq]
theorem sl2 (ds : List Int) (h : ds ≠ []) : ∃ a b : PV, slP (.tup (ds.map PV.int)) (some 1) (some 3) = .ok a ∧ slP (.tup [.int 0, .int 0]) none (some ((ds.length : Int) - 1)) = .ok b ∧ neP a b = .ok (.bl (!sq2 ds)) ∧ eqP a b = .ok (.bl (sq2 ds)) := by
  have l1 : 1 ≤ ds.length := List.length_pos_iff.mpr h
  have e1 : slP (.tup (ds.map PV.int)) (some 1) (some 3) = .ok (.tup (((ds.drop 1).take 2).map PV.int)) := by
    rw [slP_t, cut_both _ _ _ (by omega) (by omega), ← List.map_drop, ← List.map_take]; rfl
  have e2' : slP (.tup [.int 0, .int 0]) none (some ((ds.length : Int) - 1)) = .ok (.tup ((([0, 0] : List Int).take (ds.length - 1)).map PV.int)) := by
    rw [slP_t, cut_take _ _ (by omega), show ((ds.length : Int) - 1).toNat = ds.length - 1 by omega, List.map_take]; rfl
  refine ⟨_, _, e1, e2', ?_, ?_⟩
  · rw [neP_ok (ok_stem _) (ok_stem _), eqV_tt, eqVs_ints]; rfl
  · rw [eqP_ok (ok_stem _) (ok_stem _), eqV_tt, eqVs_ints]; rfl
theorem sq2_head {ds : List Int} {n : Nat} (h : Lf 2 ds n) (h4 : 4 ≤ ds.length) (hs : sq2 ds = true) : ∃ r, ds = 1 :: 0 :: 0 :: r := by
  match ds, h4 with
  | a :: b :: c :: d :: r, _ =>
    have e : ([b, c] : List Int) = [0, 0] := by
      have := eq_of_beq hs
      simpa using this
    have a1 := h.dg a List.mem_cons_self
    have a0 : a ≠ 0 := fun z => h.hd (by rw [z]; rfl)
    cases e
    exact ⟨d :: r, by rw [show a = 1 by omega]⟩
theorem f_even_roots {e : Int} {ds : List Int} {n : Nat} (h : Lf 2 ds n) (hn : n ≤ 1000) (hd : ds ≠ []) :
    (sq2 ds = false ∧ F_even_roots [leftV 2 e ds] = .ok (.lst [])) ∨ (sq2 ds = true ∧ ds.length < 4 ∧ F_even_roots [leftV 2 e ds] = .ok (.lst [leftV 2 (e / 2) [1]])) ∨
    (sq2 ds = true ∧ 4 ≤ ds.length ∧ ∃ r, Sq 2 ds.length (ds.length - 1) (U 2 ds) r ∧ F_even_roots [leftV 2 e ds] = sortP [.lst [leftV 2 (e / 2) (digs 2 r (ds.length - 1)), leftV 2 (e / 2) (digs 2 (2 ^ (ds.length - 1) - r) (ds.length - 1))]]) := by
  have hl := h.len
  have fu := f_unit 2 e ds (by omega) (by omega) h.dg (by omega)
  obtain ⟨x0, x1, x2⟩ := ixT 2 e ds
  have l1 : 1 ≤ ds.length := List.length_pos_iff.mpr hd
  obtain ⟨sa, sb, e1, e2', en, _⟩ := sl2 ds hd
  obtain ⟨V, hV⟩ : ∃ V, V = leftV 2 e ds := ⟨_, rfl⟩
  obtain ⟨G, hG⟩ : ∃ G, G = PV.tup (ds.map PV.int) := ⟨_, rfl⟩
  have lG : lenP [G] = .ok (.int ds.length) := by rw [hG]; exact stemL ds
  have d2 := fdivP_sm (a := e) (b := 2) (by omega) (by omega)
  rw [← hG] at e1 x2
  rw [← hV] at fu x0 x1 x2 ⊢
  have run : F_even_roots [V] = (D_even_roots [.val V, .un, .un, .un, .un, .un, .un, .un]).res := runF_eq (n := 8) (u := D_even_roots)
  rw [run]
  unfold D_even_roots
  have head : ∀ {k : Rho → Out} {r : R PV}, (k [.val V, .val (.int (e / 2)), .val G, .un, .un, .un, .un, .un]).res = r → (bSeq (sSet 1 (e2 fdivP (e2 ixP (eVo 0) (eC (.int 1))) (eC (.int 2)))) (bSeq (sSet 2 (e2 ixP (eVo 0) (eC (.int 2)))) k) [.val V, .un, .un, .un, .un, .un, .un, .un]).res = r := fun {k r} hk => by
    refine stp (.int (e / 2)) (by simp only [e2_eq, eVo0, eC_eq, bind1, x1, d2]) ?_
    simp only [List.set_cons_succ, List.set_cons_zero]
    refine stp G (by simp only [e2_eq, eVo0, eC_eq, bind1, x2]) ?_
    simp only [List.set_cons_succ, List.set_cons_zero]
    exact hk
  have tst : (tB1 (e2 neP (eSl slP (eVo 2) (oSome (eC (.int 1))) (oSome (eC (.int 3)))) (eSl slP (eD tupP (aCons (eC (.int 0)) (aCons (eC (.int 0)) aNil))) oNone (oSome (e2 subP (eD lenP (aCons (eVo 2) aNil)) (eC (.int 1))))))) [.val V, .val (.int (e / 2)), .val G, .un, .un, .un, .un, .un] = .ok (!sq2 ds) := by
    simp only [tB1_eq, e2_eq, eSl_eq, oSome_eq, oNone_eq, eD_eq, aCons_eq, aNil_eq, eVos, eVo0, eC_eq, bind1, asI_eq, e1, tupP2, lG, subP_ii, e2', en, asB_eq]
  cases hs : sq2 ds with
  | false =>
    rw [hs] at tst
    refine .inl ⟨rfl, head ?_⟩
    refine ifT tst ?_
    simp only [bSeq_eq, sRet_eq, eD_eq, aNil_eq, bind1, lstP0, st_ok, then_ret, res_ret]
  | true =>
    rw [hs] at tst
    by_cases h4 : ds.length < 4
    · have c : decide ((ds.length : Int) < 4) = true := decide_eq_true (by omega)
      have ln : F_left_number [.int 2, .int (e / 2), .tup [.int 1]] = .ok (leftV 2 (e / 2) [1]) := by
        have := f_left 2 (e / 2) (.tup [.int 1]) [1] (by decide) (.inr rfl) (by decide) (by decide)
        rw [this, show lead [1] = 0 from rfl, show strip [1] = [1] from rfl]; simp
      have l1' : ∀ x : PV, lstP [x] = .ok (.lst [x]) := fun _ => rfl
      refine .inr (.inl ⟨rfl, h4, head ?_⟩)
      refine skp tst ?_
      refine ifT (by simp only [tB1_eq, e2_eq, eD_eq, aCons_eq, aNil_eq, eVos, eVo0, eC_eq, bind1, lG, ltP_ii, c, asB_eq]) ?_
      simp only [bSeq_eq, sRet_eq, eD_eq, aCons_eq, aNil_eq, eVs, eV0, eC_eq, bind1, tupP1, ln, l1', st_ok, then_ret, res_ret]
    · have c : decide ((ds.length : Int) < 4) = false := decide_eq_false (by omega)
      have pwb : ∀ k, k ≤ 1000 → ((2 : Int) ^ k).natAbs < 2 ^ 7001 := fun k hk => Nat.lt_of_lt_of_le (pow_bound (m := 2) (by omega) _) (Nat.pow_le_pow_right (by omega) (by omega))
      have ub : (U 2 ds).natAbs < 2 ^ 7001 := by
        have := U_nonneg (p := 2) (by omega) h.dg
        have := pwb ds.length (by omega)
        omega
      obtain ⟨rr, hrr⟩ := sq2_head h (by omega) hs
      have E3 : EvI (U 2 ds) 3 1 := ⟨by omega, by decide, by decide, by
        rw [hrr, U_cons, U_cons, U_cons]
        exact ⟨-U 2 rr, by grind⟩⟩
      obtain ⟨r, s5, i, Ev⟩ := even_loop ub V (.int (e / 2)) G (ds.length - 3) 3 1 .un (by omega) (by omega) E3
      rw [show 3 + (ds.length - 3) = ds.length by omega] at Ev
      have S : Sq 2 ds.length (ds.length - 1) (U 2 ds) r := ⟨Ev.lo, Ev.hi, by rw [Ev.od]; omega, Ev.sq⟩
      have S2 := other_root (by omega) (by omega) (by
        refine ⟨r, ?_⟩
        obtain ⟨l, hl'⟩ : ∃ l, ds.length = l + 1 := ⟨ds.length - 1, by omega⟩
        rw [hl', show l + 1 - 1 = l by omega, Int.pow_succ]; grind) (by omega) S
      have w1 := f_of_whole_u (p := 2) (e := e / 2) (n := ds.length - 1) h.pr (by omega) (by omega) S.nz
      have w2 := f_of_whole_u (p := 2) (e := e / 2) (n := ds.length - 1) h.pr (by omega) (by omega) S2.nz
      have pw := f_power_of 2 ((ds.length : Int) - 1) (by omega) (by omega) (by omega)
      rw [show ((ds.length : Int) - 1).toNat = ds.length - 1 by omega] at pw
      rw [show ((ds.length - 1 : Nat) : Int) = (ds.length : Int) - 1 by omega] at w1 w2
      obtain ⟨T, sT, _, _⟩ := sort_two (A := leftV 2 (e / 2) (digs 2 r (ds.length - 1))) (B := leftV 2 (e / 2) (digs 2 (2 ^ (ds.length - 1) - r) (ds.length - 1))) ⟨_, _, _, rfl⟩ ⟨_, _, _, rfl⟩
      have go : lcGo (gN 7) cYes (eD F_of_whole (aCons (eC (.int 2)) (aCons (eV 1) (aCons (eV 7) (aCons (eV 6) aNil))))) [.val V, .val (.int (e / 2)), .val G, .val (.int (U 2 ds)), .val (.int r), s5, .val (.int ((ds.length : Int) - 1)), .un] ([r, 2 ^ (ds.length - 1) - r].map PV.int) = .ok ([r, 2 ^ (ds.length - 1) - r].map fun x => leftV 2 (e / 2) (digs 2 x (ds.length - 1))) :=
        lc_rows PV.int _ _ fun x hx => ⟨[.val V, .val (.int (e / 2)), .val G, .val (.int (U 2 ds)), .val (.int r), s5, .val (.int ((ds.length : Int) - 1)), .val (.int x)], rfl, by
          rcases List.mem_cons.mp hx with rfl | hx
          · simp only [eD_eq, aCons_eq, aNil_eq, eC_eq, eVs, eV0, bind1, w1]
          · rw [List.mem_singleton.mp hx]
            simp only [eD_eq, aCons_eq, aNil_eq, eC_eq, eVs, eV0, bind1, w2]⟩
      have L := eLc_ok (vs := [7]) (it := iS (eD tupP (aCons (eV 4) (aCons (e2 subP (eD F_power_of (aCons (eC (.int 2)) (aCons (eV 6) aNil))) (eVo 4)) aNil)))) (ρ := [.val V, .val (.int (e / 2)), .val G, .val (.int (U 2 ds)), .val (.int r), s5, .val (.int ((ds.length : Int) - 1)), .un]) (items := [r, 2 ^ (ds.length - 1) - r].map PV.int) rfl (by simp only [iS_eq, eD_eq, aCons_eq, aNil_eq, e2_eq, eC_eq, eVs, eV0, eVos, eVo0, bind1, pw, subP_ii, tupP2, asS_t]; rfl) (by simp) go
      have sT' : sortP [.lst ([r, 2 ^ (ds.length - 1) - r].map fun x => leftV 2 (e / 2) (digs 2 x (ds.length - 1)))] = .ok (.lst T) := sT
      have rg : rng2 [.int 3, .int (ds.length : Int)] = .ok (rngL 3 (ds.length - 3)) := by rw [rng2_all, show ((ds.length : Int) - 3).toNat = ds.length - 3 by omega]
      refine .inr (.inr ⟨rfl, by omega, r, S, ?_⟩)
      rw [sT]
      refine head ?_
      refine skp tst ?_
      refine skp (by simp only [tB1_eq, e2_eq, eD_eq, aCons_eq, aNil_eq, eVos, eVo0, eC_eq, bind1, lG, ltP_ii, c, asB_eq]) ?_
      refine stp (.int (U 2 ds)) (by simp only [eD_eq, aCons_eq, aNil_eq, eV0, bind1, fu]) ?_
      simp only [List.set_cons_succ, List.set_cons_zero]
      refine stp (.int 1) (by rw [eC_eq]) ?_
      simp only [List.set_cons_succ, List.set_cons_zero]
      refine stpFor (rngL 3 (ds.length - 3)) _ (by simp only [iR_eq, aCons_eq, aNil_eq, eD_eq, eC_eq, eVos, eVo0, bind1, lG, rg]) i ?_
      refine stp (.int ((ds.length : Int) - 1)) (by simp only [e2_eq, eD_eq, aCons_eq, aNil_eq, eC_eq, eVos, eVo0, bind1, lG, subP_ii]) ?_
      simp only [List.set_cons_succ, List.set_cons_zero]
      simp only [bSeq_eq, sRet_eq, eD_eq, aCons_eq, aNil_eq, L, bind1, sT', st_ok, then_ret, res_ret]
theorem find_loop {p : Int} (hp : 2 ≤ p ∧ p ≤ 97) (V L G : PV) (f0 : Int) (hG : ixP G (.int 0) = .ok (.int f0)) : ∀ (k : Nat) (a : Int) (s4 : Slot), 1 ≤ a → a + k = p →
    (∃ d, a ≤ d ∧ d < p ∧ d * d % p = f0 ∧ forL (gN 4) (bSeq (sIf (tB1 (e2 eqP (e2 modP (e2 mulP (eVo 4) (eVo 4)) (eVo 1)) (e2 ixP (eVo 3) (eC (.int 0))))) (bSeq (sRet (eD F_odd_roots (aCons (eV 0) (aCons (eV 4) aNil)))) bNil) bNil) bNil) (rngL a k) [.val V, .val (.int p), .val L, .val G, s4] = ((F_odd_roots [V, .int d]).st [.val V, .val (.int p), .val L, .val G, .val (.int d)] fun q => .ret q).then bNil) ∨
    ((∀ d, a ≤ d → d < p → d * d % p ≠ f0) ∧ ∃ s4', forL (gN 4) (bSeq (sIf (tB1 (e2 eqP (e2 modP (e2 mulP (eVo 4) (eVo 4)) (eVo 1)) (e2 ixP (eVo 3) (eC (.int 0))))) (bSeq (sRet (eD F_odd_roots (aCons (eV 0) (aCons (eV 4) aNil)))) bNil) bNil) bNil) (rngL a k) [.val V, .val (.int p), .val L, .val G, s4] = .next [.val V, .val (.int p), .val L, .val G, s4'])
  | 0, a, s4, _, hk => .inr ⟨fun d d1 d2 => by omega, s4, rfl⟩
  | k + 1, a, s4, ha, hk => by
    have mu : mulP (.int a) (.int a) = .ok (.int (a * a)) := mulP_sm (by omega) (by omega) (by omega) (by omega)
    have mo := modP_pos (a := a * a) (b := p) (by omega)
    by_cases q : a * a % p = f0
    · have q' : (a * a % p == f0) = true := by rw [beq_iff_eq]; exact q
      refine .inl ⟨a, by omega, by omega, q, ?_⟩
      rw [rngL_step, forL_cons, gN_eq, onR_some]
      simp only [List.set_cons_succ, List.set_cons_zero, bSeq_eq, sIf_eq, tB1_eq, e2_eq, eVos, eVo0, eC_eq, bind1, mu, mo, hG, eqP_ii, q', asB_eq, stB_ok, if_true, sRet_eq, eD_eq, aCons_eq, aNil_eq, eVs, eV0]
      cases F_odd_roots [V, .int a] with
      | ok q => rfl
      | exc c => rfl
      | stuck => rfl
    · have q' : (a * a % p == f0) = false := by rw [beq_eq_false_iff_ne]; exact q
      have step : ∀ s4 : Slot, forL (gN 4) (bSeq (sIf (tB1 (e2 eqP (e2 modP (e2 mulP (eVo 4) (eVo 4)) (eVo 1)) (e2 ixP (eVo 3) (eC (.int 0))))) (bSeq (sRet (eD F_odd_roots (aCons (eV 0) (aCons (eV 4) aNil)))) bNil) bNil) bNil) (rngL a (k + 1)) [.val V, .val (.int p), .val L, .val G, s4] = forL (gN 4) (bSeq (sIf (tB1 (e2 eqP (e2 modP (e2 mulP (eVo 4) (eVo 4)) (eVo 1)) (e2 ixP (eVo 3) (eC (.int 0))))) (bSeq (sRet (eD F_odd_roots (aCons (eV 0) (aCons (eV 4) aNil)))) bNil) bNil) bNil) (rngL (a + 1) k) [.val V, .val (.int p), .val L, .val G, .val (.int a)] := fun s4 => by
        rw [rngL_step, forL_cons, gN_eq, onR_some]
        simp only [List.set_cons_succ, List.set_cons_zero, bSeq_eq, sIf_eq, tB1_eq, e2_eq, eVos, eVo0, eC_eq, bind1, mu, mo, hG, eqP_ii, q', asB_eq, stB_ok, if_neg Bool.false_ne_true, bNil_eq, then_next, fo_next]
      rw [step]
      rcases find_loop hp V L G f0 hG k (a + 1) (.val (.int a)) (by omega) (by omega) with ⟨d, d1, d2, d3, i⟩ | ⟨nd, s4', i⟩
      · exact .inl ⟨d, by omega, d2, d3, i⟩
      · refine .inr ⟨fun d d1 d2 => ?_, s4', i⟩
        by_cases e : d = a
        · rw [e]; exact q
        · exact nd d (by omega) d2
/-- whether there is a root at all -/
def SqOk (p e : Int) (ds : List Int) : Prop := e % 2 = 0 ∧ (p = 2 → sq2 ds = true) ∧ (p ≠ 2 → ∃ d, 1 ≤ d ∧ d < p ∧ d * d % p = ds.headD 0)
theorem f_squares {p e : Int} {ds : List Int} {n : Nat} (h : Lf p ds n) (hn : n ≤ 1000) :
    (ds = [] ∧ F_square_roots [leftV p e ds] = .ok (.lst [leftV p (-(-e / 2)) []])) ∨
    (ds ≠ [] ∧ ¬SqOk p e ds ∧ F_square_roots [leftV p e ds] = .ok (.lst [])) ∨
    (ds ≠ [] ∧ SqOk p e ds ∧ p = 2 ∧ ds.length < 4 ∧ F_square_roots [leftV p e ds] = .ok (.lst [leftV 2 (e / 2) [1]])) ∨
    (ds ≠ [] ∧ SqOk p e ds ∧ (p = 2 → 4 ≤ ds.length) ∧ ∃ m r, m = (if p = 2 then ds.length - 1 else ds.length) ∧ Sq p ds.length m (U p ds) r ∧ F_square_roots [leftV p e ds] = sortP [.lst [leftV p (e / 2) (digs p r m), leftV p (e / 2) (digs p (p ^ m - r) m)]]) := by
  have pb := h.b
  have hl := h.len
  obtain ⟨V, hV⟩ : ∃ V, V = leftV p e ds := ⟨_, rfl⟩
  obtain ⟨G, hG⟩ : ∃ G, G = PV.tup (ds.map PV.int) := ⟨_, rfl⟩
  have gt : gT (gsCons (gN 1) (gsCons (gN 2) (gsCons (gN 3) gsNil))) V [.val V, .un, .un, .un, .un] = some [.val V, .val (.int p), .val (.int e), .val G, .un] := by rw [hV, hG]; rfl
  have run : F_square_roots [V] = (D_square_roots [.val V, .un, .un, .un, .un]).res := runF_eq (n := 5) (u := D_square_roots)
  have l1' : ∀ x : PV, lstP [x] = .ok (.lst [x]) := fun _ => rfl
  have head : ∀ {k : Rho → Out} {r : R PV}, (k [.val V, .val (.int p), .val (.int e), .val G, .un]).res = r → (bSeq (sTo (gT (gsCons (gN 1) (gsCons (gN 2) (gsCons (gN 3) gsNil)))) (eV 0)) k [.val V, .un, .un, .un, .un]).res = r := fun {k r} hk => by
    refine stpN (ρ' := [.val V, .val (.int p), .val (.int e), .val G, .un]) ?_ hk
    rw [sTo_eq, eV0, st_ok, gt]
  rw [← hV, run]
  unfold D_square_roots
  by_cases h0 : ds = []
  · refine .inl ⟨h0, head ?_⟩
    have q : eqP G (.tup []) = .ok (.bl true) := by rw [hG, h0]; exact eqP_tt0
    have d2 := fdivP_sm (a := -e) (b := 2) (by omega) (by omega)
    have ln : F_left_number [.int p, .int (-(-e / 2)), .tup []] = .ok (leftV p (-(-e / 2)) []) := by
      have := f_left p (-(-e / 2)) (.tup []) [] h.pr (.inr rfl) (by decide) (fun _ z => nomatch z)
      rw [this, show lead [] = 0 from rfl, show strip [] = [] from rfl]; simp
    refine ifT (by simp only [tB1_eq, e2_eq, eD_eq, aNil_eq, eVos, eVo0, bind1, tupP0, q, asB_eq]) ?_
    simp only [bSeq_eq, sRet_eq, eD_eq, aCons_eq, aNil_eq, e1_eq, e2_eq, eVs, eV0, eVos, eVo0, eC_eq, bind1, negP_eq, d2, tupP0, ln, l1', st_ok, then_ret, res_ret]
  · obtain ⟨f0, ds', hds⟩ : ∃ f0 ds', ds = f0 :: ds' := by
      cases ds with
      | nil => exact absurd rfl h0
      | cons a r => exact ⟨a, r, rfl⟩
    have q : eqP G (.tup []) = .ok (.bl false) := by
      rw [hG, hds]
      exact (eqP_ok (ok_stem _) (by simp)).trans (by rw [List.map_cons, eqV_tt, eqVs_cn])
    have G0 : ixP G (.int 0) = .ok (.int f0) := by rw [hG, hds]; simp
    have mo := modP_pos (a := e) (b := 2) (by omega)
    have t1 : (tB1 (e2 eqP (eVo 3) (eD tupP aNil))) [.val V, .val (.int p), .val (.int e), .val G, .un] = .ok false := by simp only [tB1_eq, e2_eq, eD_eq, aNil_eq, eVos, eVo0, bind1, tupP0, q, asB_eq]
    by_cases c : e % 2 = 0
    · have c' : (e % 2 == 0) = true := by rw [beq_iff_eq]; exact c
      have t2 : (tB1 (e2 neP (e2 modP (eVo 2) (eC (.int 2))) (eC (.int 0)))) [.val V, .val (.int p), .val (.int e), .val G, .un] = .ok false := by simp only [tB1_eq, e2_eq, eVos, eVo0, eC_eq, bind1, mo, neP_ii, c', Bool.not_true, asB_eq]
      by_cases p2 : p = 2
      · have p2' : (p == 2) = true := by rw [beq_iff_eq]; exact p2
        subst p2
        have t3 : (tB1 (e2 eqP (eVo 1) (eC (.int 2)))) [.val V, .val (.int 2), .val (.int e), .val G, .un] = .ok true := by simp only [tB1_eq, e2_eq, eVos, eVo0, eC_eq, bind1, eqP_ii, p2', asB_eq]
        have fe := f_even_roots (e := e) h hn h0
        rw [← hV] at fe
        rcases fe with ⟨s, fe⟩ | ⟨s, l4, fe⟩ | ⟨s, l4, r, S, fe⟩
        · refine .inr (.inl ⟨h0, fun z => ?_, head ?_⟩)
          · have := z.2.1 rfl; rw [s] at this; cases this
          · refine skp t1 (skp t2 (ifT t3 ?_))
            simp only [bSeq_eq, sRet_eq, eD_eq, aCons_eq, aNil_eq, eV0, bind1, fe, st_ok, then_ret, res_ret]
        · refine .inr (.inr (.inl ⟨h0, ⟨c, fun _ => s, fun z => absurd rfl z⟩, rfl, l4, head ?_⟩))
          refine skp t1 (skp t2 (ifT t3 ?_))
          simp only [bSeq_eq, sRet_eq, eD_eq, aCons_eq, aNil_eq, eV0, bind1, fe, st_ok, then_ret, res_ret]
        · obtain ⟨T, sT, _, _⟩ := sort_two (A := leftV 2 (e / 2) (digs 2 r (ds.length - 1))) (B := leftV 2 (e / 2) (digs 2 (2 ^ (ds.length - 1) - r) (ds.length - 1))) ⟨_, _, _, rfl⟩ ⟨_, _, _, rfl⟩
          rw [sT] at fe
          refine .inr (.inr (.inr ⟨h0, ⟨c, fun _ => s, fun z => absurd rfl z⟩, fun _ => l4, ds.length - 1, r, by rw [if_pos rfl], S, ?_⟩))
          rw [sT]
          refine head (skp t1 (skp t2 (ifT t3 ?_)))
          simp only [bSeq_eq, sRet_eq, eD_eq, aCons_eq, aNil_eq, eV0, bind1, fe, st_ok, then_ret, res_ret]
      · have p2' : (p == 2) = false := by rw [beq_eq_false_iff_ne]; exact p2
        have t3 : (tB1 (e2 eqP (eVo 1) (eC (.int 2)))) [.val V, .val (.int p), .val (.int e), .val G, .un] = .ok false := by simp only [tB1_eq, e2_eq, eVos, eVo0, eC_eq, bind1, eqP_ii, p2', asB_eq]
        have rg : rng2 [.int 1, .int p] = .ok (rngL 1 (p - 1).toNat) := rng2_all
        rcases find_loop pb V (.int e) G f0 G0 (p - 1).toNat 1 .un (by omega) (by omega) with ⟨d, d1, d2, d3, i⟩ | ⟨nd, s4, i⟩
        · obtain ⟨r, S, fo⟩ := f_odd_roots (e := e) (a := d) h hn (by omega) h0 ⟨d1, d2⟩ (by rw [hds, List.headD_cons]; exact d3)
          obtain ⟨T, sT, _, _⟩ := sort_two (A := leftV p (e / 2) (digs p r ds.length)) (B := leftV p (e / 2) (digs p (p ^ ds.length - r) ds.length)) ⟨_, _, _, rfl⟩ ⟨_, _, _, rfl⟩
          rw [sT, ← hV] at fo
          rw [fo, st_ok, then_ret] at i
          refine .inr (.inr (.inr ⟨h0, ⟨c, fun z => absurd z p2, fun _ => ⟨d, d1, d2, by rw [hds, List.headD_cons]; exact d3⟩⟩, fun z => absurd z p2, ds.length, r, by rw [if_neg p2], S, ?_⟩))
          rw [sT]
          refine head (skp t1 (skp t2 (skp t3 ?_)))
          rw [bSeq_eq, sFor_eq, show iR rng2 (aCons (eC (.int 1)) (aCons (eVo 1) aNil)) [.val V, .val (.int p), .val (.int e), .val G, .un] = .ok (rngL 1 (p - 1).toNat) by simp only [iR_eq, aCons_eq, aNil_eq, eC_eq, eVos, eVo0, bind1, rg], stL_ok, i, then_ret, res_ret]
        · refine .inr (.inl ⟨h0, fun z => ?_, ?_⟩)
          · obtain ⟨d, d1, d2, d3⟩ := z.2.2 p2
            rw [hds, List.headD_cons] at d3
            exact nd d d1 d2 d3
          · refine head (skp t1 (skp t2 (skp t3 ?_)))
            refine stpFor (rngL 1 (p - 1).toNat) _ (by simp only [iR_eq, aCons_eq, aNil_eq, eC_eq, eVos, eVo0, bind1, rg]) i ?_
            simp only [bSeq_eq, sRet_eq, eD_eq, aNil_eq, bind1, lstP0, st_ok, then_ret, res_ret]
    · have c' : (e % 2 == 0) = false := by rw [beq_eq_false_iff_ne]; exact c
      refine .inr (.inl ⟨h0, fun z => c z.1, head ?_⟩)
      refine skp t1 ?_
      refine ifT (by simp only [tB1_eq, e2_eq, eVos, eVo0, eC_eq, bind1, mo, neP_ii, c', Bool.not_false, asB_eq]) ?_
      simp only [bSeq_eq, sRet_eq, eD_eq, aNil_eq, bind1, lstP0, st_ok, then_ret, res_ret]
end PM
set_option Elab.async false
set_option linter.all false
set_option maxRecDepth 100000
set_option autoImplicit false
set_option exponentiation.threshold 20000
namespace PM
open PySem PySem.Spec L2 PL
open PyProof.Rows hiding St
theorem pw_unit {p m : Int} (hp : 2 ≤ p) (hm : m % p ≠ 0) {k v : Nat} (h : p ^ k ∣ m * p ^ v) : k ≤ v := by
  by_cases c : k ≤ v
  · exact c
  · exfalso
    obtain ⟨j, rfl⟩ : ∃ j, k = v + 1 + j := ⟨k - v - 1, by omega⟩
    obtain ⟨w, hw⟩ := h
    have P0 : p ^ v ≠ 0 := Int.pow_ne_zero (by omega)
    have : p ^ v * m = p ^ v * (p * (p ^ j * w)) := by
      rw [Int.pow_add, Int.pow_succ] at hw
      grind
    have := Int.eq_of_mul_eq_mul_left P0 this
    exact hm (by rw [this]; exact Int.mul_emod_right _ _)
theorem unit_dvd {p a : Int} (hp : p ∈ primesL) (ha : a % p ≠ 0) : ∀ (n : Nat) (c : Int), p ^ n ∣ a * c → p ^ n ∣ c
  | 0, c, _ => ⟨c, by simp⟩
  | n + 1, c, h => by
    have pb := primesL_le p hp
    obtain ⟨w, hw⟩ := h
    by_cases hc : c % p = 0
    · obtain ⟨c', rfl⟩ := Int.dvd_of_emod_eq_zero hc
      have e : p * (a * c') = p * (p ^ n * w) := by rw [Int.pow_succ] at hw; grind
      have e := Int.eq_of_mul_eq_mul_left (show p ≠ 0 by omega) e
      obtain ⟨x, hx⟩ := unit_dvd hp ha n c' ⟨w, e⟩
      exact ⟨x, by rw [hx, Int.pow_succ]; grind⟩
    · exact absurd (show a * c % p = 0 from Int.emod_eq_zero_of_dvd ⟨p ^ n * w, by rw [hw, Int.pow_succ]; grind⟩) (prime_mulI hp ha hc)
theorem valX {p t : Int} (hp : 2 ≤ p) (h : t ≠ 0) : ∃ (m : Int) (v : Nat), t = m * p ^ v ∧ m % p ≠ 0 := by
  obtain ⟨m, v, e, hm, _⟩ := vp_spec hp h
  exact ⟨m, v, e, hm⟩
theorem sq_dvd {p t : Int} (hp : p ∈ primesL) {k h : Nat} (hk : k = 2 * h ∨ k + 1 = 2 * h) : p ^ k ∣ t * t ↔ p ^ h ∣ t := by
  have pb := primesL_le p hp
  constructor
  · intro d
    by_cases t0 : t = 0
    · rw [t0]; exact ⟨0, by simp⟩
    · obtain ⟨m, v, rfl, hm⟩ := valX (p := p) (by omega) t0
      have : m * p ^ v * (m * p ^ v) = (m * m) * p ^ (2 * v) := by rw [show 2 * v = v + v by omega, Int.pow_add]; grind
      rw [this] at d
      have := pw_unit (by omega) (prime_mulI hp hm hm) d
      obtain ⟨j, rfl⟩ : ∃ j, v = h + j := ⟨v - h, by omega⟩
      exact ⟨m * p ^ j, by rw [Int.pow_add]; grind⟩
  · rintro ⟨w, rfl⟩
    refine ⟨p ^ (2 * h - k) * (w * w), ?_⟩
    have : p ^ h * p ^ h = p ^ k * p ^ (2 * h - k) := by rw [← Int.pow_add, ← Int.pow_add]; congr 1; omega
    grind
/-- a square that begins with a unit -/
theorem sq_form {p top c : Int} (hp : p ∈ primesL) {k n : Nat} (n1 : 1 ≤ n) (hc : c % p ≠ 0) (h : p ^ (k + n) ∣ top * top - c * p ^ k) : ∃ (v : Nat) (t : Int), k = 2 * v ∧ top = t * p ^ v ∧ t % p ≠ 0 ∧ p ^ n ∣ t * t - c := by
  have pb := primesL_le p hp
  have P0 : p ^ k ≠ 0 := Int.pow_ne_zero (by omega)
  obtain ⟨w, hw⟩ := h
  rw [Int.pow_add] at hw
  have up : ∀ j : Nat, k < j → p ^ (k + 1) ∣ p ^ j := fun j hj => ⟨p ^ (j - (k + 1)), by rw [← Int.pow_add]; congr 1; omega⟩
  obtain ⟨n', rfl⟩ : ∃ n', n = n' + 1 := ⟨n - 1, by omega⟩
  have no : ¬ p ^ (k + 1) ∣ top * top := fun ⟨x, hx⟩ => by
    have : p ^ (k + 1) ∣ c * p ^ k := ⟨x - p ^ n' * w, by
      have : c * p ^ k = top * top - p ^ k * p ^ (n' + 1) * w := by omega
      rw [this, hx, Int.pow_succ, Int.pow_succ]; grind⟩
    have := pw_unit (by omega) hc this
    omega
  have t0 : top ≠ 0 := fun z => no (by rw [z]; exact ⟨0, by simp⟩)
  obtain ⟨t, v, rfl, ht⟩ := valX (p := p) (by omega) t0
  have e : t * p ^ v * (t * p ^ v) = (t * t) * p ^ (2 * v) := by rw [show 2 * v = v + v by omega, Int.pow_add]; grind
  have dk : p ^ k ∣ (t * t) * p ^ (2 * v) := ⟨p ^ (n' + 1) * w + c, by rw [← e]; grind⟩
  have k1 := pw_unit (by omega) (prime_mulI hp ht ht) dk
  have k2 : 2 * v ≤ k := by
    by_cases q : 2 * v ≤ k
    · exact q
    · obtain ⟨x, hx⟩ := up (2 * v) (by omega)
      exact absurd ⟨t * t * x, by rw [e, hx]; grind⟩ no
  have kv : k = 2 * v := by omega
  refine ⟨v, t, kv, rfl, ht, w, ?_⟩
  rw [e, ← kv] at hw
  exact Int.eq_of_mul_eq_mul_left P0 (by grind)
theorem sq_back {p c t : Int} {k n v : Nat} (hk : k = 2 * v) (h : p ^ n ∣ t * t - c) : p ^ (k + n) ∣ (t * p ^ v) * (t * p ^ v) - c * p ^ k := by
  obtain ⟨w, hw⟩ := h
  have e : t * p ^ v * (t * p ^ v) = (t * t) * p ^ k := by rw [hk, show 2 * v = v + v by omega, Int.pow_add]; grind
  exact ⟨w, by rw [e, Int.pow_add]; grind⟩
theorem odd8 {t : Int} (h : t % 2 = 1) : ∃ x, t * t = 1 + 8 * x := by
  obtain ⟨k, rfl⟩ : ∃ k, t = 2 * k + 1 := ⟨t / 2, by omega⟩
  have : k % 2 = 0 ∨ k % 2 = 1 := by omega
  rcases this with e | e
  · obtain ⟨j, rfl⟩ : ∃ j, k = 2 * j := ⟨k / 2, by omega⟩
    exact ⟨j * (2 * j + 1), by grind⟩
  · obtain ⟨j, rfl⟩ : ∃ j, k = 2 * j + 1 := ⟨k / 2, by omega⟩
    exact ⟨(2 * j + 1) * (j + 1), by grind⟩
theorem ne2 {p x : Int} (h : p = 2) (hx : x % p ≠ 0) : x % 2 = 1 := by subst h; omega
/-- two roots -/
theorem sq_two {p u r b top : Int} (hp : p ∈ primesL) {n m h : Nat} (S : Sq p n m u r) (hm : (p ≠ 2 ∧ m = n ∧ 1 ≤ n) ∨ (p = 2 ∧ n = m + 1 ∧ 3 ≤ m)) (hb : b % p ≠ 0) (hu : u % p ≠ 0) :
    ¬(p ^ (h + m) ∣ top - b * r * p ^ h ∧ p ^ (h + m) ∣ top - b * (p ^ m - r) * p ^ h) ∧ (p ^ (2 * h + n) ∣ top * top - (b * b * u) * p ^ (2 * h) ↔ (p ^ (h + m) ∣ top - b * r * p ^ h ∨ p ^ (h + m) ∣ top - b * (p ^ m - r) * p ^ h)) := by
  have pb := primesL_le p hp
  have P0 : p ^ h ≠ 0 := Int.pow_ne_zero (by omega)
  have br := prime_mulI hp hb S.nz
  obtain ⟨ρ, hρ⟩ := S.sq
  have beg : ∀ x : Int, p ^ (h + m) ∣ top - b * x * p ^ h → ∃ t, top = t * p ^ h ∧ p ^ m ∣ t - b * x := fun x ⟨w, hw⟩ => by
    rw [Int.pow_add] at hw
    exact ⟨b * x + p ^ m * w, by grind, w, by grind⟩
  have beg' : ∀ (x t : Int), p ^ m ∣ t - b * x → p ^ (h + m) ∣ t * p ^ h - b * x * p ^ h := fun x t ⟨w, hw⟩ => ⟨w, by rw [Int.pow_add]; grind⟩
  refine ⟨fun ⟨h1, h2⟩ => ?_, fun hs => ?_, fun hs => ?_⟩
  · obtain ⟨t, e1, w1, hw1⟩ := beg _ h1
    obtain ⟨t', e2, w2, hw2⟩ := beg _ h2
    have : t = t' := Int.eq_of_mul_eq_mul_right P0 (by rw [← e1, ← e2])
    subst this
    have d : p ^ m ∣ 2 * (b * r) := ⟨w2 - w1 + b, by grind⟩
    rcases hm with ⟨q, rfl, n1⟩ | ⟨q, rfl, m3⟩
    · have t2 : (2 : Int) % p ≠ 0 := by rw [Int.emod_eq_of_lt (by omega) (by omega)]; omega
      have := unit_dvd hp t2 _ _ d
      have := pw_unit (k := m) (v := 0) (by omega) br (by rw [Int.pow_zero, Int.mul_one]; exact this)
      omega
    · subst q
      have : (2 : Int) ^ m ∣ (b * r) * 2 ^ 1 := by rw [Int.pow_one, Int.mul_comm (b * r)]; exact d
      have := pw_unit (by omega) br this
      omega
  · have n1 : 1 ≤ n := by rcases hm with ⟨_, _, q⟩ | ⟨_, q, _⟩ <;> omega
    obtain ⟨v, t, kv, et, nt, w, hw⟩ := sq_form hp n1 (prime_mulI hp (prime_mulI hp hb hb) hu) hs
    have vh : v = h := by omega
    subst vh
    rw [et]
    -- (t - b r)(t + b r)
    have fac : p ^ n ∣ (t - b * r) * (t + b * r) := ⟨w - b * b * ρ, by
      have : (t - b * r) * (t + b * r) = (t * t - b * b * u) - b * b * (r * r - u) := by grind
      rw [this, hw, hρ]; grind⟩
    have opp : p ^ m ∣ t + b * r → p ^ m ∣ t - b * (p ^ m - r) := fun ⟨x, hx⟩ => ⟨x - b, by grind⟩
    rcases hm with ⟨q, rfl, _⟩ | ⟨q, rfl, m3⟩
    · have t2 : (2 : Int) % p ≠ 0 := by rw [Int.emod_eq_of_lt (by omega) (by omega)]; omega
      by_cases c : (t - b * r) % p = 0
      · -- then t + b r is a unit
        have c2 : (t + b * r) % p ≠ 0 := fun z => prime_mulI hp t2 br (by
          obtain ⟨x, hx⟩ := Int.dvd_of_emod_eq_zero c
          obtain ⟨y, hy⟩ := Int.dvd_of_emod_eq_zero z
          exact Int.emod_eq_zero_of_dvd ⟨y - x, by grind⟩)
        exact .inl (beg' _ _ (unit_dvd hp c2 _ _ (by rw [Int.mul_comm]; exact fac)))
      · exact .inr (beg' _ _ (opp (unit_dvd hp c _ _ fac)))
    · subst q
      have to := ne2 rfl nt
      have bo := ne2 rfl br
      obtain ⟨x, hx⟩ : ∃ x, t - b * r = 2 * x := ⟨(t - b * r) / 2, by omega⟩
      obtain ⟨y, hy⟩ : ∃ y, t + b * r = 2 * y := ⟨(t + b * r) / 2, by omega⟩
      have dd : (2 : Int) ^ (m - 1) ∣ x * y := by
        obtain ⟨g, hg⟩ := fac
        obtain ⟨m', rfl⟩ : ∃ m', m = m' + 1 := ⟨m - 1, by omega⟩
        refine ⟨g, Int.eq_of_mul_eq_mul_left (show (4 : Int) ≠ 0 by omega) ?_⟩
        rw [hx, hy, Int.pow_succ, Int.pow_succ] at hg
        rw [show m' + 1 - 1 = m' by omega]
        grind
      have pm : ∀ z : Int, (2 : Int) ^ (m - 1) ∣ z → (2 : Int) ^ m ∣ 2 * z := fun z ⟨g, hg⟩ => ⟨g, by
        obtain ⟨m', rfl⟩ : ∃ m', m = m' + 1 := ⟨m - 1, by omega⟩
        rw [hg, show m' + 1 - 1 = m' by omega, Int.pow_succ]; grind⟩
      by_cases c : x % 2 = 0
      · have yo : y % 2 ≠ 0 := by omega
        have := unit_dvd (p := 2) (by decide) yo _ _ (by rw [Int.mul_comm]; exact dd)
        exact .inl (beg' _ _ (by rw [hx]; exact pm _ this))
      · have := unit_dvd (p := 2) (by decide) c _ _ dd
        exact .inr (beg' _ _ (opp (by rw [hy]; exact pm _ this)))
  · -- one begins
    have main : ∀ x : Int, p ^ n ∣ x * x - u → p ^ (h + m) ∣ top - b * x * p ^ h → p ^ (2 * h + n) ∣ top * top - (b * b * u) * p ^ (2 * h) := fun x ⟨g, hg⟩ hx => by
      obtain ⟨t, et, w, hw⟩ := beg x hx
      rw [et]
      refine sq_back rfl ?_
      have e : t = b * x + p ^ m * w := by omega
      have : t * t - b * b * u = b * b * (x * x - u) + (2 * p ^ m) * (b * x * w) + (p ^ m * p ^ m) * (w * w) := by rw [e]; grind
      rw [this, hg]
      rcases hm with ⟨q, rfl, n1⟩ | ⟨q, rfl, m3⟩
      · exact ⟨b * b * g + 2 * b * x * w + p ^ m * (w * w), by grind⟩
      · subst q
        obtain ⟨m', rfl⟩ : ∃ m', m = m' + 1 := ⟨m - 1, by omega⟩
        exact ⟨b * b * g + b * x * w + 2 ^ m' * (w * w), by rw [Int.pow_succ, Int.pow_succ]; grind⟩
    rcases hs with hs | hs
    · exact main r S.sq hs
    · refine main _ ?_ hs
      have m1 : 1 ≤ m := by rcases hm with ⟨_, q, _⟩ | ⟨_, _, q⟩ <;> omega
      refine (other_root (by omega) m1 ?_ ?_ S).sq
      · rcases hm with ⟨q, rfl, n1⟩ | ⟨q, rfl, m3⟩
        · exact ⟨2 * r, by grind⟩
        · subst q
          exact ⟨r, by rw [Int.pow_succ]; grind⟩
      · rcases hm with ⟨q, rfl, n1⟩ | ⟨q, rfl, m3⟩ <;> omega
/-- by 2, few figures -/
theorem sq_few {u b top : Int} {n h : Nat} (n1 : 1 ≤ n) (n3 : n ≤ 3) (hu : (2 : Int) ^ n ∣ u - 1) (hb : b % 2 = 1) : (2 : Int) ^ (h + 1) ∣ top - b * 1 * 2 ^ h ↔ (2 : Int) ^ (2 * h + n) ∣ top * top - (b * b * u) * 2 ^ (2 * h) := by
  have p8 : (2 : Int) ^ n ∣ 8 := ⟨2 ^ (3 - n), by rw [← Int.pow_add, show n + (3 - n) = 3 by omega]; rfl⟩
  obtain ⟨g, hg⟩ := p8
  obtain ⟨x, hx⟩ := odd8 hb
  obtain ⟨y, hy⟩ := hu
  have n' : (2 : Int) ^ n % 2 = 0 := by
    obtain ⟨j, rfl⟩ : ∃ j, n = j + 1 := ⟨n - 1, by omega⟩
    rw [Int.pow_succ]; omega
  have uo : u % 2 = 1 := by
    obtain ⟨q, hq⟩ := Int.dvd_of_emod_eq_zero n'
    rw [hq] at hy
    have : u = 1 + 2 * (q * y) := by grind
    omega
  constructor
  · rintro ⟨w, hw⟩
    have et : top = (b + 2 * w) * 2 ^ h := by rw [Int.pow_succ] at hw; grind
    have to : (b + 2 * w) % 2 = 1 := by omega
    obtain ⟨z, hz⟩ := odd8 to
    rw [et]
    refine sq_back rfl ⟨g * z - g * x - y * (b * b), ?_⟩
    have : (b + 2 * w) * (b + 2 * w) - b * b * u = (8 * z) - (8 * x) - (b * b) * (u - 1) := by rw [hz]; grind
    rw [this, hg, hy]; grind
  · intro hs
    have bb : b * b * u % 2 ≠ 0 := prime_mulI (p := 2) (by decide) (prime_mulI (p := 2) (by decide) (by omega) (by omega)) (by omega)
    obtain ⟨v, t, kv, et, nt, _⟩ := sq_form (p := 2) (by decide) n1 bb hs
    have vh : v = h := by omega
    subst vh
    obtain ⟨w, hw⟩ : ∃ w, t - b = 2 * w := ⟨(t - b) / 2, by omega⟩
    exact ⟨w, by rw [et, Int.pow_succ]; grind⟩
/-- no square begins so -/
theorem sq_ok_of {p e b top : Int} {ds : List Int} {N : Nat} (hL : Lf p ds N) (hd : ds ≠ []) (hb : b % p ≠ 0) {k : Nat} (hk : (k : Int) = e + 24) (h : p ^ (k + ds.length) ∣ top * top - (b * b * U p ds) * p ^ k) : SqOk p e ds := by
  have pb := hL.b
  have hp := hL.pr
  have hu := U_head hL hd
  have l1 : 1 ≤ ds.length := List.length_pos_iff.mpr hd
  obtain ⟨v, t, kv, et, nt, w, hw⟩ := sq_form hp l1 (prime_mulI hp (prime_mulI hp hb hb) hu) h
  refine ⟨by omega, fun p2 => ?_, fun p2 => ?_⟩
  · subst p2
    obtain ⟨x, hx⟩ := odd8 (ne2 rfl nt)
    obtain ⟨y, hy⟩ := odd8 (ne2 rfl hb)
    have dg := hL.dg
    rw [hx, hy] at hw
    match ds, hd with
    | [a], _ => rfl
    | [a, c], _ =>
      have ha := dg a List.mem_cons_self
      have hc := dg c (List.mem_cons_of_mem _ List.mem_cons_self)
      have e4 : (2 : Int) ^ [a, c].length = 4 := rfl
      rw [e4, U_cons, U_one] at hw
      have : c = 0 := by
        have : (c * 2 + a) % 4 = 1 := by
          have : (c * 2 + a) = 1 + 4 * (2 * x - w - 2 * y * (c * 2 + a)) := by grind
          omega
        omega
      subst this; rfl
    | a :: c :: d :: r, _ =>
      have ha := dg a List.mem_cons_self
      have hc := dg c (List.mem_cons_of_mem _ List.mem_cons_self)
      have hd' := dg d (List.mem_cons_of_mem _ (List.mem_cons_of_mem _ List.mem_cons_self))
      obtain ⟨q, hq⟩ : ∃ q, (2 : Int) ^ (a :: c :: d :: r).length = 8 * q := ⟨2 ^ r.length, by
        rw [show (a :: c :: d :: r).length = r.length + 3 from rfl, Int.pow_succ, Int.pow_succ, Int.pow_succ]; grind⟩
      rw [hq, U_cons, U_cons, U_cons] at hw
      have : c = 0 ∧ d = 0 := by
        have : (((U 2 r * 2 + d) * 2 + c) * 2 + a) % 8 = 1 := by
          have : (((U 2 r * 2 + d) * 2 + c) * 2 + a) = 1 + 8 * (x - q * w - y * (((U 2 r * 2 + d) * 2 + c) * 2 + a)) := by grind
          omega
        omega
      obtain ⟨rfl, rfl⟩ := this
      unfold sq2
      simp
  · obtain ⟨j, j1, j2⟩ := inv_ex hp hb
    have jn : (j : Int) % p ≠ 0 := fun z => by
      obtain ⟨q, hq⟩ := Int.dvd_of_emod_eq_zero z
      rw [hq, show b * (p * q) = p * (b * q) by grind, Int.mul_emod_right] at j2
      omega
    have tj := prime_mulI hp nt jn
    have d0 := Int.emod_nonneg (t * j) (show p ≠ 0 by omega)
    have d1 := Int.emod_lt_of_pos (t * j) (show 0 < p by omega)
    refine ⟨t * j % p, by omega, d1, ?_⟩
    obtain ⟨f0, r, rfl⟩ : ∃ f0 r, ds = f0 :: r := by
      cases ds with
      | nil => exact absurd rfl hd
      | cons a r => exact ⟨a, r, rfl⟩
    have f0b := hL.dg f0 List.mem_cons_self
    rw [List.headD_cons]
    rw [← Int.mul_emod]
    have pl : ∃ q, p ^ (f0 :: r).length = p * q := ⟨p ^ r.length, by rw [List.length_cons, Int.pow_succ]; grind⟩
    obtain ⟨q, hq⟩ := pl
    obtain ⟨z, hz⟩ : ∃ z, b * j = 1 + p * z := ⟨b * j / p, by have := Int.mul_ediv_add_emod (b * j) p; omega⟩
    rw [hq, U_cons] at hw
    have : t * j * (t * j) = f0 + p * (q * w * j * j + U p r * (1 + p * z) * (1 + p * z) + f0 * z * (2 + p * z)) := by
      have e1 : t * j * (t * j) = (t * t) * (j * j) := by grind
      have e2 : t * t = p * q * w + b * b * (U p r * p + f0) := by omega
      have e3 : t * j * (t * j) = p * q * w * (j * j) + (b * j) * (b * j) * (U p r * p + f0) := by rw [e1, e2]; grind
      rw [e3, hz]; grind
    rw [this, Int.add_mul_emod_self_left, Int.emod_eq_of_lt f0b.1 f0b.2]
end PM
set_option Elab.async false
set_option linter.all false
set_option maxRecDepth 100000
set_option autoImplicit false
namespace K82
open PySem PySem.Spec L2 PL PM
open PyProof.Rows hiding St
noncomputable def D__law_cell_at : Rho → Out := (bSeq (sIf (tB1 (e2 ltP (eVo 1) (eD lenP (aCons (eVo 0) aNil)))) (bSeq (sRet (e2 ixP (eVo 0) (eVo 1))) bNil) bNil) (bSeq (sRet (eC (.int 0))) bNil))
noncomputable def F__law_cell_at : List PV → R PV := runF 2 D__law_cell_at
noncomputable def D__law_whole : Rho → Out := (bSeq (sRet (eAn (e1 (isiP "int") (eVo 0)) (e1 notP (e1 (isiP "bool") (eVo 0))))) bNil)
noncomputable def F__law_whole : List PV → R PV := runF 1 D__law_whole
noncomputable def D__law_prime : Rho → Out := (bSeq (sSet 1 (eD lstP (aCons (eC (.int 2)) (aCons (eC (.int 3)) (aCons (eC (.int 5)) (aCons (eC (.int 7)) (aCons (eC (.int 2)) (aCons (eC (.int 3)) (aCons (eC (.int 5)) (aCons (eC (.int 11)) (aCons (eC (.int 13)) (aCons (eC (.int 17)) (aCons (eC (.int 19)) (aCons (eC (.int 23)) (aCons (eC (.int 29)) (aCons (eC (.int 31)) (aCons (eC (.int 37)) (aCons (eC (.int 41)) (aCons (eC (.int 43)) (aCons (eC (.int 47)) (aCons (eC (.int 53)) (aCons (eC (.int 59)) (aCons (eC (.int 61)) (aCons (eC (.int 67)) (aCons (eC (.int 71)) (aCons (eC (.int 73)) (aCons (eC (.int 79)) (aCons (eC (.int 83)) (aCons (eC (.int 89)) (aCons (eC (.int 97)) aNil)))))))))))))))))))))))))))))) (bSeq (sRet (e2 ixP (eVo 1) (e2 modP (eVo 0) (eD lenP (aCons (eVo 1) aNil))))) bNil))
noncomputable def F__law_prime : List PV → R PV := runF 2 D__law_prime
noncomputable def D__law_power : Rho → Out := (bSeq (sSet 2 (eC (.int 1))) (bSeq (sFor (iR rng1 (aCons (eVo 1) aNil)) (gN 3) (bSeq (sSet 2 (e2 mulP (eVo 2) (eVo 0))) bNil)) (bSeq (sRet (eV 2)) bNil)))
noncomputable def F__law_power : List PV → R PV := runF 4 D__law_power
noncomputable def D__law_is_left : Rho → Out := (bSeq (sIf (tOr' (tNt (tB1 (e1 (isiP "tuple") (eVo 0)))) (tOr' (tB1 (e2 neP (eD lenP (aCons (eVo 0) aNil)) (eC (.int 3)))) (tOr' (tNt (tB1 (eD F__law_whole (aCons (e2 ixP (eVo 0) (eC (.int 0))) aNil)))) (tB1 (e2 neP (e2 ixP (eVo 0) (eC (.int 0))) (eVo 1)))))) (bSeq (sRet (eC (.bl false))) bNil) bNil) (bSeq (sIf (tOr' (tNt (tB1 (eD F__law_whole (aCons (e2 ixP (eVo 0) (eC (.int 1))) aNil)))) (tOr' (tNt (tB1 (e1 (isiP "tuple") (e2 ixP (eVo 0) (eC (.int 2)))))) (tAn (tB1 (e2 neP (e2 ixP (eVo 0) (eC (.int 2))) (eD tupP aNil))) (tB1 (e2 eqP (e2 ixP (e2 ixP (eVo 0) (eC (.int 2))) (eC (.int 0))) (eC (.int 0))))))) (bSeq (sRet (eC (.bl false))) bNil) bNil) (bSeq (sRet (eD allP (aCons (eLc [2] (iS (e2 ixP (eVo 0) (eC (.int 2)))) (gN 2) cYes (eAn (eD F__law_whole (aCons (eV 2) aNil)) (eChain leP ltP (eC (.int 0)) (eVo 2) (eVo 1)))) aNil))) bNil)))
noncomputable def F__law_is_left : List PV → R PV := runF 3 D__law_is_left
noncomputable def D__law_unit : Rho → Out := (bSeq (sSet 1 (eC (.int 0))) (bSeq (sFor (iRv (e2 ixP (eVo 0) (eC (.int 2)))) (gN 2) (bSeq (sSet 1 (e2 addP (e2 mulP (eVo 1) (e2 ixP (eVo 0) (eC (.int 0)))) (eVo 2))) bNil)) (bSeq (sRet (eV 1)) bNil)))
noncomputable def F__law_unit : List PV → R PV := runF 3 D__law_unit
noncomputable def D__law_of_whole : Rho → Out := (bSeq (sSetO 4 (eD lstP aNil)) (bSeq (sFor (iR rng1 (aCons (eVo 3) aNil)) (gN 5) (bSeq (sMut 4 appP (e2 modP (eVo 2) (eVo 0))) (bSeq (sSet 2 (e2 fdivP (eVo 2) (eVo 0))) bNil))) (bSeq (sWh (tAn (tB1 (e2 neP (eVo 4) (eD lstP aNil))) (tB1 (e2 eqP (e2 ixP (eVo 4) (eC (.int 0))) (eC (.int 0))))) (bSeq (sSetO 4 (eSl slL (eVo 4) (oSome (eC (.int 1))) oNone)) (bSeq (sSet 1 (e2 addP (eVo 1) (eC (.int 1)))) bNil))) (bSeq (sRet (eD tupP (aCons (eV 0) (aCons (eV 1) (aCons (eD tupleP (aCons (eVo 4) aNil)) aNil))))) bNil))))
noncomputable def F__law_of_whole : List PV → R PV := runF 6 D__law_of_whole
noncomputable def D__law_filled : Rho → Out := (bSeq (sSet 3 (eC (.int 1))) (bSeq (sWh (tB1 (e2 leP (eVo 3) (eVo 0))) (bSeq (sSet 3 (e2 mulP (eVo 3) (eVo 1))) bNil)) (bSeq (sRet (e2 addP (eVo 0) (e2 mulP (eVo 3) (eVo 2)))) bNil)))
noncomputable def F__law_filled : List PV → R PV := runF 4 D__law_filled
noncomputable def D__law_left_by : Rho → Out := (bSeq (sSet 5 (e2 modP (eVo 1) (eC (.int 11)))) (bSeq (sSet 6 (e2 subP (e2 modP (eVo 3) (eC (.int 41))) (eC (.int 20)))) (bSeq (sSet 7 (e2 addP (e2 modP (eD absP (aCons (e2 mulP (eVo 2) (e2 powP (eC (.int 982451653)) (eC (.int 3)))) aNil)) (e2 powP (eC (.int 10)) (eC (.int 30)))) (e2 mulP (e2 fdivP (eD F__law_power (aCons (eV 0) (aCons (eV 5) aNil))) (eC (.int 3))) (e2 modP (eVo 2) (eC (.int 5)))))) (bSeq (sIf (tB1 (eV 4)) (bSeq (sSet 7 (eD F__law_filled (aCons (e2 fdivP (eD absP (aCons (eVo 2) aNil)) (eC (.int 6))) (aCons (eV 0) (aCons (eV 7) aNil))))) bNil) bNil) (bSeq (sIf (tB1 (e2 eqP (e2 modP (eVo 2) (eC (.int 2))) (eC (.int 1)))) (bSeq (sSet 7 (e2 mulP (eVo 7) (eVo 7))) (bSeq (sSet 6 (e2 subP (eVo 6) (e2 modP (eVo 6) (eC (.int 2))))) bNil)) bNil) (bSeq (sIf (tAn (tB1 (e2 eqP (e2 modP (eVo 2) (eC (.int 3))) (eC (.int 1)))) (tB1 (e2 eqP (eVo 0) (eC (.int 2))))) (bSeq (sSet 7 (e2 addP (e2 mulP (eC (.int 8)) (eVo 7)) (eC (.int 1)))) bNil) bNil) (bSeq (sRet (eD F__law_of_whole (aCons (eV 0) (aCons (eV 6) (aCons (eV 7) (aCons (eV 5) aNil)))))) bNil)))))))
noncomputable def F__law_left_by : List PV → R PV := runF 8 D__law_left_by
noncomputable def D__law_begins : Rho → Out := (bSeq (sSet 5 (e2 addP (e2 addP (e2 ixP (eVo 3) (eC (.int 1))) (eD lenP (aCons (e2 ixP (eVo 3) (eC (.int 2))) aNil))) (eVo 4))) (bSeq (sSet 6 (e2 subP (eVo 1) (e2 mulP (e2 mulP (eVo 2) (eD F__law_unit (aCons (eV 3) aNil))) (eD F__law_power (aCons (eV 0) (aCons (eD maxP (aCons (eC (.int 0)) (aCons (e2 addP (e2 ixP (eVo 3) (eC (.int 1))) (eVo 4)) aNil))) aNil)))))) (bSeq (sRet (e2 eqP (e2 modP (eVo 6) (eD F__law_power (aCons (eV 0) (aCons (eD maxP (aCons (eC (.int 0)) (aCons (eVo 5) aNil))) aNil)))) (eC (.int 0)))) bNil)))
noncomputable def F__law_begins : List PV → R PV := runF 7 D__law_begins
noncomputable def D__law_top : Rho → Out := (bSeq (sSet 6 (e2 modP (e2 fdivP (eVo 3) (eC (.int 24))) (e2 powP (eC (.int 10)) (eC (.int 20))))) (bSeq (sIf (tAn (tB1 (eV 5)) (tOr' (tB1 (e2 eqP (eVo 1) (eD lstP aNil))) (tB1 (e2 eqP (e2 modP (eVo 2) (eC (.int 4))) (eC (.int 3)))))) (bSeq (sRet (e2 fdivP (eVo 2) (eC (.int 4)))) bNil) bNil) (bSeq (sIf (tOr' (tB1 (e2 eqP (eVo 1) (eD lstP aNil))) (tB1 (e2 eqP (e2 modP (eVo 2) (eC (.int 4))) (eC (.int 3))))) (bSeq (sRet (e2 mulP (e2 modP (e2 mulP (e2 fdivP (eVo 2) (eC (.int 4))) (eC (.int 48271))) (e2 powP (eC (.int 10)) (eC (.int 20)))) (eD F__law_power (aCons (eV 0) (aCons (e2 modP (eVo 6) (eC (.int 30))) aNil))))) bNil) bNil) (bSeq (sSet 7 (e2 ixP (eVo 1) (e2 modP (e2 fdivP (eVo 2) (eC (.int 4))) (eD lenP (aCons (eVo 1) aNil))))) (bSeq (sSet 8 (e2 addP (e2 addP (e2 ixP (eVo 7) (eC (.int 1))) (eD lenP (aCons (e2 ixP (eVo 7) (eC (.int 2))) aNil))) (eC (.int 12)))) (bSeq (sSet 9 (e2 addP (e2 mulP (e2 mulP (eD F__law_unit (aCons (eV 7) aNil)) (eD F__law_power (aCons (eV 0) (aCons (e2 addP (e2 ixP (eVo 7) (eC (.int 1))) (eC (.int 12))) aNil)))) (eVo 4)) (e2 mulP (eVo 6) (eD F__law_power (aCons (eV 0) (aCons (eV 8) aNil)))))) (bSeq (sIf (tB1 (e2 eqP (e2 modP (eVo 2) (eC (.int 4))) (eC (.int 1)))) (bSeq (sSet 9 (e2 addP (eVo 9) (e2 mulP (e2 addP (eC (.int 1)) (e2 modP (eVo 6) (e2 subP (eVo 0) (eC (.int 1))))) (eD F__law_power (aCons (eV 0) (aCons (e2 subP (eVo 8) (eC (.int 1))) aNil)))))) bNil) bNil) (bSeq (sIf (tB1 (e2 eqP (e2 modP (eVo 2) (eC (.int 4))) (eC (.int 2)))) (bSeq (sSet 9 (e2 addP (eVo 9) (e2 mulP (e2 addP (eC (.int 1)) (e2 modP (eVo 6) (e2 subP (eVo 0) (eC (.int 1))))) (eD F__law_power (aCons (eV 0) (aCons (e2 subP (e2 subP (eVo 8) (eC (.int 1))) (e2 modP (e2 fdivP (eVo 2) (eC (.int 8))) (eVo 8))) aNil)))))) bNil) bNil) (bSeq (sRet (eV 9)) bNil)))))))))
noncomputable def F__law_top : List PV → R PV := runF 10 D__law_top
noncomputable def D_law : Rho → Out := (bSeq (sSet 1 (eD F__law_prime (aCons (eD F__law_cell_at (aCons (eV 0) (aCons (eC (.int 0)) aNil))) aNil))) (bSeq (sSet 2 (e2 eqP (e2 modP (e2 fdivP (eD F__law_cell_at (aCons (eV 0) (aCons (eC (.int 0)) aNil))) (eC (.int 28))) (eC (.int 2))) (eC (.int 1)))) (bSeq (sSet 3 (eD F__law_left_by (aCons (eV 1) (aCons (eD F__law_cell_at (aCons (eV 0) (aCons (eC (.int 1)) aNil))) (aCons (eD F__law_cell_at (aCons (eV 0) (aCons (eC (.int 2)) aNil))) (aCons (eD F__law_cell_at (aCons (eV 0) (aCons (eC (.int 3)) aNil))) (aCons (eV 2) aNil))))))) (bSeq (sSet 4 (eD F_square_roots (aCons (eV 3) aNil))) (bSeq (sIf (tOr' (tNt (tB1 (e1 (isiP "list") (eVo 4)))) (tNt (tB1 (eD allP (aCons (eLc [11] (iS (eV 4)) (gN 11) cYes (eD F__law_is_left (aCons (eV 11) (aCons (eV 1) aNil)))) aNil))))) (bSeq (sRet (eC (.bl false))) bNil) bNil) (bSeq (sSet 5 (e2 addP (eSl slP (eVo 0) (oSome (eC (.int 4))) (oSome (eC (.int 44)))) (eD lstP (aCons (eC (.int 0)) (aCons (eC (.int 0)) aNil))))) (bSeq (sFor (iR rng3S (aCons (eC (.int 0)) (aCons (e2 subP (eD lenP (aCons (eVo 5) aNil)) (eC (.int 1))) (aCons (eC (.int 2)) aNil)))) (gN 6) (bSeq (sSet 7 (e2 addP (eC (.int 1)) (e2 modP (e2 ixP (eVo 5) (e2 addP (eVo 6) (eC (.int 1)))) (eC (.int 6))))) (bSeq (sIf (tB1 (e2 eqP (e2 modP (eVo 7) (eVo 1)) (eC (.int 0)))) (bSeq (sSet 7 (eC (.int 1))) bNil) bNil) (bSeq (sSet 8 (eD F__law_top (aCons (eV 1) (aCons (eV 4) (aCons (e2 ixP (eVo 5) (eVo 6)) (aCons (e2 ixP (eVo 5) (e2 addP (eVo 6) (eC (.int 1)))) (aCons (eV 7) (aCons (eV 2) aNil)))))))) (bSeq (sIf (tB1 (e2 eqP (e2 modP (e2 fdivP (e2 ixP (eVo 5) (e2 addP (eVo 6) (eC (.int 1)))) (eC (.int 6))) (eC (.int 4))) (eC (.int 1)))) (bSeq (sSet 8 (e2 subP (eC (.int 0)) (eVo 8))) bNil) bNil) (bSeq (sSet 9 (eLc [11] (iS (eV 4)) (gN 11) (tB1 (eD F__law_begins (aCons (eV 1) (aCons (eV 8) (aCons (eV 7) (aCons (eV 11) (aCons (eC (.int 12)) aNil))))))) (eV 11))) (bSeq (sSet 10 (eD F__law_begins (aCons (eV 1) (aCons (e2 mulP (eVo 8) (eVo 8)) (aCons (e2 mulP (eVo 7) (eVo 7)) (aCons (eV 3) (aCons (eC (.int 24)) aNil))))))) (bSeq (sIf (tOr' (tB1 (e2 gtP (eD lenP (aCons (eVo 9) aNil)) (eC (.int 1)))) (tB1 (e2 neP (eVo 10) (e2 eqP (eD lenP (aCons (eVo 9) aNil)) (eC (.int 1)))))) (bSeq (sRet (eC (.bl false))) bNil) bNil) bNil)))))))) (bSeq (sRet (eC (.bl true))) bNil))))))))
noncomputable def F_law : List PV → R PV := runF 12 D_law
end K82
set_option Elab.async false
set_option linter.all false
set_option maxRecDepth 100000
set_option autoImplicit false
set_option exponentiation.threshold 20000
set_option maxHeartbeats 0
namespace K82
open PySem PySem.Spec L2 PL PM
open PyProof.Rows hiding St
theorem f_cell (ns : List Int) (k : Int) (h : 0 ≤ k) : F__law_cell_at [.frz (ns.map PV.int), .int k] = .ok (.int (nth ns k)) := by
  show (D__law_cell_at [.val (.frz (ns.map PV.int)), .val (.int k)]).res = _
  by_cases hk : k < ns.length
  · simp [D__law_cell_at, hk, ixP_intsF h hk]
  · have : ns[k.toNat]? = none := List.getElem?_eq_none (by omega)
    simp [D__law_cell_at, hk, nth, this]
theorem f_whole (p : PV) : F__law_whole [p] = .ok (.bl (isW p)) := by
  show (D__law_whole [.val p]).res = _
  simp [D__law_whole, whole_eq]
def primes28 : List Int := [2, 3, 5, 7, 2, 3, 5, 11, 13, 17, 19, 23, 29, 31, 37, 41, 43, 47, 53, 59, 61, 67, 71, 73, 79, 83, 89, 97]
theorem f_prime (c : Int) : F__law_prime [.int c] = .ok (.int (nth primes28 (c % 28))) := by
  refine (runF_eq (n := 2) (u := D__law_prime)).trans ?_
  show (D__law_prime [.val (.int c), .un]).res = _
  have ll : ∀ l : List PV, l.length ≤ 100 → lstP l = .ok (.lst l) := fun l h => lstP_ok (by omega)
  have e : lstP [.int 2, .int 3, .int 5, .int 7, .int 2, .int 3, .int 5, .int 11, .int 13, .int 17, .int 19, .int 23, .int 29, .int 31, .int 37, .int 41, .int 43, .int 47, .int 53, .int 59, .int 61, .int 67, .int 71, .int 73, .int 79, .int 83, .int 89, .int 97] = .ok (.lst (primes28.map PV.int)) := ll _ (by simp only [List.length_cons, List.length_nil]; omega)
  have m := modP_pos (a := c) (b := 28) (by omega)
  have n : lenP [.lst (primes28.map PV.int)] = .ok (.int 28) := by simp [primes28]
  have h28 : primes28.length = 28 := rfl
  have i : ixP (.lst (primes28.map PV.int)) (.int (c % 28)) = .ok (.int (nth primes28 (c % 28))) := ixP_ints (ns := primes28) (by omega) (by omega)
  unfold D__law_prime
  refine stp (.lst (primes28.map PV.int)) (by simp only [eD_eq, aCons_eq, aNil_eq, eC_eq, bind1]; exact e) ?_
  simp only [List.set_cons_succ, List.set_cons_zero]
  simp only [bSeq_eq, sRet_eq, e2_eq, eD_eq, aCons_eq, aNil_eq, eVo0, eVos, bind1, n, m, i, st_ok, then_ret, res_ret]
theorem prime_in (c : Int) : nth primes28 (c % 28) ∈ primesL := by
  have h28 : primes28.length = 28 := rfl
  have h : ∀ x ∈ primes28, x ∈ primesL := by decide
  exact h _ (nth_mem (by omega) (by omega))
theorem f_power_l (p t : Int) (hp : p.natAbs < 2 ^ 60) (h0 : 0 ≤ t) (h1 : t ≤ 10000) : F__law_power [.int p, .int t] = .ok (.int (p ^ t.toNat)) := by
  refine (runF_eq (n := 4) (u := D__law_power)).trans ?_
  show (D__law_power [.val (.int p), .val (.int t), .un, .un]).res = _
  have hl := mul_loop (i := 2) (j := 0) (a := 3) (ρ := [.val (.int p), .val (.int t), .val (.int 1), .un]) (x := 1) (y := p) t.toNat rfl rfl (by omega) (by omega) (by omega) (by simp) (by decide) hp (by omega)
  have hr : rng1 [.int t] = .ok (rngL 0 t.toNat) := rng1_sm (by omega) (by omega)
  simp [D__law_power, hr, hl]
theorem f_is_left_l (p e : Int) (ds : List Int) (n : Nat) (h : Lf p ds n) (hn : n ≤ 1000) : F__law_is_left [leftV p e ds, .int p] = .ok (.bl true) := by
  refine (runF_eq (n := 3) (u := D__law_is_left)).trans ?_
  show (D__law_is_left [.val (leftV p e ds), .val (.int p), .un]).res = _
  obtain ⟨x0, x1, x2⟩ := ixT p e ds
  have hl := h.len
  have t : isT (leftV p e ds) = true := rfl
  have l3 : lenP [leftV p e ds] = .ok (.int 3) := by simp [leftV]
  have t0 : tupP [] = .ok (.tup []) := tupP_ok (by simp)
  have t2 : isT (.tup (ds.map PV.int)) = true := rfl
  have hd : ds ≠ [] → ∃ d : Int, ixP (.tup (ds.map PV.int)) (.int 0) = .ok (.int d) ∧ d ≠ 0 := fun hd => by
    cases ds with
    | nil => exact absurd rfl hd
    | cons d r => exact ⟨d, by simp, by simpa using h.hd⟩
  have go : lcGo (gN 2) cYes (eAn (eD F__law_whole (aCons (eV 2) aNil)) (eChain leP ltP (eC (.int 0)) (eVo 2) (eVo 1))) [.val (leftV p e ds), .val (.int p), .un] (ds.map PV.int) = .ok ((ds.map PV.int).map fun _ => PV.bl true) := by
    refine lcGo_map (fun _ => PV.bl true) _ fun q hq => ⟨_, rfl, ?_⟩
    obtain ⟨d, hdm, rfl⟩ := List.mem_map.mp hq
    have b := h.dg d hdm
    simp [f_whole, b.1, b.2, isW]
  have L := eLc_ok (vs := [2]) (it := iS (e2 ixP (eVo 0) (eC (.int 2)))) (ρ := [.val (leftV p e ds), .val (.int p), .un]) (items := ds.map PV.int) rfl (by simp [x2]) (by simp; omega) go
  have al : allP [.lst ((ds.map PV.int).map fun _ => PV.bl true)] = .ok (.bl true) := by
    have : ((ds.map PV.int).map fun _ => PV.bl true) = (ds.map fun _ => true).map PV.bl := by simp
    rw [this, allP_bl]
    congr 2
    simp
  unfold D__law_is_left
  refine skp (by simp [isi_tuple, t, l3, x0, f_whole, isW]) ?_
  refine skp (by
    by_cases q : ds = []
    · have n0 : neP (.tup (ds.map PV.int)) (.tup []) = .ok (.bl false) := by rw [neTup', decide_eq_true q]; rfl
      simp [isi_tuple, x1, x2, f_whole, isW, t2, t0, n0]
    · obtain ⟨d, d1, d2⟩ := hd q
      have := neTup' (ds := ds)
      have d3 : (d == 0) = false := by simpa using d2
      simp [isi_tuple, x1, x2, f_whole, isW, t2, t0, this, q, d1, d3]) ?_
  simp only [bSeq_eq, sRet_eq, eD_eq, aCons_eq, aNil_eq, L, bind1, al, st_ok, then_ret, res_ret]
theorem f_unit_l (p e : Int) (ds : List Int) (hp : 2 ≤ p) (hp2 : p ≤ 97) (hd : Dg p ds) (hl : ds.length ≤ 1900) : F__law_unit [leftV p e ds] = .ok (.int (U p ds)) := by
  refine (runF_eq (n := 3) (u := D__law_unit)).trans ?_
  show (D__law_unit [.val (leftV p e ds), .un, .un]).res = _
  obtain ⟨s', r⟩ := unit_run p hp hp2 (leftV p e ds) (by simp [leftV]) ds.reverse 0 .un 0 (fun d h => hd d (List.mem_reverse.mp h)) (by omega) (by simp) (by simp; omega)
  rw [foldl_U, List.map_reverse] at r
  have e2 : ixP (leftV p e ds) (.int 2) = .ok (.tup (ds.map PV.int)) := by simp [leftV]
  simp [D__law_unit, e2, r]
theorem f_ofw (p e x : Int) (m : Nat) (hp : 2 ≤ p ∧ p ≤ 97) (hm : m ≤ 1000) : F__law_of_whole [.int p, .int e, .int x, .int m] = .ok (leftV p (e + lead (digs p x m)) (PM.strip (digs p x m))) := by
  refine (runF_eq (n := 6) (u := D__law_of_whole)).trans ?_
  show (D__law_of_whole [.val (.int p), .val (.int e), .val (.int x), .val (.int m), .un, .un]).res = _
  have t0 : lstP [] = .ok (.lst []) := lstP_ok (by simp)
  have hr : rng1 [.int (m : Int)] = .ok (rngL 0 m) := by rw [rng1_sm (by omega) (by omega)]; rfl
  have run : ∀ (items : List PV) (y : Int) (ds : List Int) (s5 : Slot), ds.length + items.length ≤ 1000 → ∃ y' s5', forL (gN 5) (bSeq (sMut 4 appP (e2 modP (eVo 2) (eVo 0))) (bSeq (sSet 2 (e2 fdivP (eVo 2) (eVo 0))) bNil)) items [.val (.int p), .val (.int e), .val (.int y), .val (.int m), .own (ds.map PV.int), s5] = .next [.val (.int p), .val (.int e), .val (.int y'), .val (.int m), .own ((ds ++ digs p y items.length).map PV.int), s5'] := by
    intro items
    induction items with
    | nil => intro y ds s5 _; exact ⟨y, s5, by simp [digs]⟩
    | cons q qs ih =>
      intro y ds s5 hl
      rw [List.length_cons] at hl
      have m1 := modP_pos (a := y) (show 0 < p by omega)
      have d1 := fdivP_sm (a := y) (show 0 < p by omega) (by omega)
      have ap : appP (ds.map PV.int) (.int (y % p)) = .ok ((ds ++ [y % p]).map PV.int) := by rw [appP_ok (by rw [List.length_map]; omega), List.map_append]; rfl
      obtain ⟨y', s5', e1⟩ := ih (y / p) (ds ++ [y % p]) (.val q) (by rw [List.length_append, List.length_singleton]; omega)
      refine ⟨y', s5', ?_⟩
      rw [List.length_cons, show digs p y (qs.length + 1) = y % p :: digs p (y / p) qs.length from rfl, show ds ++ y % p :: digs p (y / p) qs.length = ds ++ [y % p] ++ digs p (y / p) qs.length by simp, ← e1]
      simp only [forL_cons, gN_eq, onR_some, List.set_cons_succ, List.set_cons_zero, bSeq_eq, sMut_eq, getOwn0, getOwnS, onOwn_some, e2_eq, eVo0, eVos, bind1, m1, st_ok, ap, own_ok, then_next, sSet_eq, d1, bNil_eq, fo_next]
  obtain ⟨y', s5', e1⟩ := run (rngL 0 m) x [] .un (by simp [rngL]; omega)
  rw [show (rngL 0 m).length = m by simp [rngL], List.nil_append] at e1
  have wh : ∀ (ds : List Int) (e : Int), ds.length ≤ 1000 → sWh (tAn (tB1 (e2 neP (eVo 4) (eD lstP aNil))) (tB1 (e2 eqP (e2 ixP (eVo 4) (eC (.int 0))) (eC (.int 0))))) (bSeq (sSetO 4 (eSl slL (eVo 4) (oSome (eC (.int 1))) oNone)) (bSeq (sSet 1 (e2 addP (eVo 1) (eC (.int 1)))) bNil)) [.val (.int p), .val (.int e), .val (.int y'), .val (.int m), .own (ds.map PV.int), s5'] = .next [.val (.int p), .val (.int (e + lead ds)), .val (.int y'), .val (.int m), .own ((PM.strip ds).map PV.int), s5'] := by
    intro ds
    induction ds with
    | nil =>
      intro e _
      have n0 : neP (.lst []) (.lst []) = .ok (.bl false) := by rw [neP_ok (by simp) (by simp)]; simp
      rw [sWh_eq]
      simp [t0, n0, lead, PM.strip]
    | cons d r ih =>
      intro e hl
      rw [List.length_cons] at hl
      have n1 : neP (.lst (PV.int d :: r.map PV.int)) (.lst []) = .ok (.bl true) := by rw [neP_ok (by simp) (by simp)]; simp
      rw [sWh_eq]
      by_cases hd : d = 0
      · subst hd
        have i := ih (e + 1) (by omega)
        have cd : cutG (PV.int 0 :: r.map PV.int) (some 1) none = r.map PV.int := by rw [cut_drop _ _ (by omega)]; rfl
        have ll : lead (0 :: r) = lead r + 1 := by simp [lead]
        have ss : PM.strip (0 :: r) = PM.strip r := by simp [PM.strip]
        rw [ll, ss, show e + ((lead r + 1 : Nat) : Int) = e + 1 + lead r by omega, ← i]
        simp [t0, n1, cd]
      · have hd' : (d == 0) = false := by simpa using hd
        have ll : lead (d :: r) = 0 := by simp [lead, hd']
        have ss : PM.strip (d :: r) = d :: r := by simp [PM.strip, hd']
        rw [ll, ss]
        simp [t0, n1, hd']
  have W := wh (digs p x m) e (by rw [digs_len]; omega)
  have t3 : tupP [.int p, .int (e + lead (digs p x m)), .tup ((PM.strip (digs p x m)).map PV.int)] = .ok (leftV p (e + lead (digs p x m)) (PM.strip (digs p x m))) := tupP3
  unfold D__law_of_whole
  refine stpN (ρ' := [.val (.int p), .val (.int e), .val (.int x), .val (.int m), .own [], .un]) (by simp [t0]) ?_
  refine stpFor (rngL 0 m) _ (by simp [hr]) e1 ?_
  refine stpN W ?_
  simp [t3]
theorem foN' {b : Out} {ρ : Rho} {k : Rho → Out} {o : Out} (h : b = .next ρ) (g : k ρ = o) : Out.fo b k = o := by rw [h, fo_next]; exact g
theorem lgm2 {a b m n : Nat} (ha : a.log2 < m) (hb : b.log2 < n) : (a * b).log2 < m + n := by
  by_cases h0 : a * b = 0
  · rw [h0, Nat.log2_zero]; omega
  · have a0 : a ≠ 0 := fun z => h0 (by rw [z, Nat.zero_mul])
    have b0 : b ≠ 0 := fun z => h0 (by rw [z, Nat.mul_zero])
    rw [Nat.log2_lt h0, Nat.pow_add]
    exact Nat.mul_lt_mul'' ((Nat.log2_lt a0).mp ha) ((Nat.log2_lt b0).mp hb)
theorem lga2 {a t n : Nat} (ha : a.log2 < n) (ht : t.log2 < n) : (a + t).log2 < n + 1 := by
  by_cases h0 : a + t = 0
  · rw [h0, Nat.log2_zero]; omega
  · rw [Nat.log2_lt h0, Nat.pow_succ]
    have h1 : a < 2 ^ n := by
      by_cases z : a = 0
      · rw [z]; exact Nat.pow_pos (by omega)
      · exact (Nat.log2_lt z).mp ha
    have h2 : t < 2 ^ n := by
      by_cases z : t = 0
      · rw [z]; exact Nat.pow_pos (by omega)
      · exact (Nat.log2_lt z).mp ht
    omega
theorem lgup {a m n : Nat} (h : a.log2 < m) (hn : m ≤ n) : a.log2 < n := by omega
theorem f_fill (n p more : Int) (hp : 2 ≤ p ∧ p ≤ 97) (hn : n.natAbs.log2 < 1048577) (n0 : 0 ≤ n) (hm : more.natAbs.log2 < 3000000) : ∃ z : Int, F__law_filled [.int n, .int p, .int more] = .ok (.int z) ∧ z.natAbs.log2 < 6000000 := by
  obtain ⟨ρ', e1, t, rfl, t1, t2⟩ := sWh_inv (t := tB1 (e2 leP (eVo 3) (eVo 0))) (b := bSeq (sSet 3 (e2 mulP (eVo 3) (eVo 1))) bNil)
    (fun ρ => ∃ t : Int, ρ = [.val (.int n), .val (.int p), .val (.int more), .val (.int t)] ∧ 1 ≤ t ∧ t.natAbs.log2 < 1048587) (fun ρ => match ρ with | [_, _, _, .val (.int t)] => (n + 1 - t).toNat | _ => 0) (fun ρ => ∃ t : Int, ρ = [.val (.int n), .val (.int p), .val (.int more), .val (.int t)] ∧ 1 ≤ t ∧ t.natAbs.log2 < 1048587)
    (fun ρ ⟨t, e, h1, h2⟩ => by
      subst e
      by_cases c : t ≤ n
      · right
        have tl : t.natAbs.log2 < 1048577 := log2_le_lt (by omega) hn
        have mm : mulP (.int t) (.int p) = .ok (.int (t * p)) := mulP_ii (okMul_log tl (n := 100) (log2_le_lt (show p.natAbs ≤ 97 by omega) (by decide)) (by omega))
        have tp : t * 2 ≤ t * p := Int.mul_le_mul_of_nonneg_left hp.1 (by omega)
        refine ⟨by simp [c], _, .inl (by simp [mm]), ⟨t * p, rfl, by omega, ?_⟩, ?_⟩
        · rw [Int.natAbs_mul]
          exact lgm2 tl (n := 10) (log2_le_lt (show p.natAbs ≤ 97 by omega) (by decide))
        · show (n + 1 - t * p).toNat < (n + 1 - t).toNat
          omega
      · left
        exact ⟨by simp [c], t, rfl, h1, h2⟩) _ [.val (.int n), .val (.int p), .val (.int more), .val (.int 1)] (Nat.le_refl _) ⟨1, rfl, by omega, by decide⟩
  have mm : mulP (.int t) (.int more) = .ok (.int (t * more)) := mulP_ii (okMul_log t2 hm (by omega))
  refine ⟨n + t * more, ?_, ?_⟩
  · refine (runF_eq (n := 4) (u := D__law_filled)).trans ?_
    show (D__law_filled [.val (.int n), .val (.int p), .val (.int more), .un]).res = _
    unfold D__law_filled
    refine stp (.int 1) (by simp only [eC_eq]) ?_
    simp only [List.set_cons_succ, List.set_cons_zero]
    refine stpN e1 ?_
    simp only [bSeq_eq, sRet_eq, e2_eq, eVo0, eVos, bind1, mm, addP_ii, st_ok, then_ret, res_ret]
  · have h1 := lgm2 t2 hm
    rw [← Int.natAbs_mul] at h1
    have h2 := lga2 (lgup hn (by omega)) h1
    exact lgup (log2_le_lt (Int.natAbs_add_le n (t * more)) h2) (by omega)
theorem f_left_by {p a b c : Int} {plain : Bool} (hp : p ∈ primesL) (hb : b.natAbs.log2 < 1048577) : ∃ (e : Int) (ds : List Int), F__law_left_by [.int p, .int a, .int b, .int c, .bl plain] = .ok (leftV p e ds) ∧ Lf p ds 10 ∧ -21 ≤ e ∧ e ≤ 40 := by
  have pb := primesL_le p hp
  have m11 := modP_pos (a := a) (b := 11) (by omega)
  obtain ⟨m, hm⟩ : ∃ m, m = a % 11 := ⟨_, rfl⟩
  rw [← hm] at m11
  have mb : 0 ≤ m ∧ m ≤ 10 := by omega
  obtain ⟨k, hk⟩ : ∃ k : Nat, m = k := ⟨m.toNat, by omega⟩
  have m41 := modP_pos (a := c) (b := 41) (by omega)
  obtain ⟨e0, he0⟩ : ∃ e0, e0 = c % 41 - 20 := ⟨_, rfl⟩
  have me2 := modP_pos (a := e0) (b := 2) (by omega)
  obtain ⟨C, hC⟩ : ∃ C : Int, C = 982451653 ^ 3 := ⟨_, rfl⟩
  have Cb : C.natAbs < 2 ^ 200 := by rw [hC]; decide
  have pC : powP (.int 982451653) (.int 3) = .ok (.int C) := by rw [powP_ii (by omega) (by omega) (by omega), hC]; rfl
  have p30 : powP (.int 10) (.int 30) = .ok (.int 1000000000000000000000000000000) := by rw [powP_sm (by omega) (by omega) (by omega) (by omega)]; rfl
  have mC : mulP (.int b) (.int C) = .ok (.int (b * C)) := mulP_ii (okMul_log hb (log2_lt Cb (by omega)) (by omega))
  have m30 := modP_pos (a := ((b * C).natAbs : Int)) (b := 1000000000000000000000000000000) (by omega)
  have pw := f_power_l p m (by omega) mb.1 (by omega)
  have mtn : m.toNat ≤ 10 := by omega
  have Pb : (p ^ m.toNat).natAbs < 2 ^ 100 := Nat.lt_of_lt_of_le (pow_bound (m := 7) (by omega) _) (Nat.pow_le_pow_right (by omega) (by omega))
  have d3 := fdivP_sm (a := p ^ m.toNat) (b := 3) (by omega) (by omega)
  have m5 := modP_pos (a := b) (b := 5) (by omega)
  obtain ⟨y, hy⟩ : ∃ y, y = p ^ m.toNat / 3 * (b % 5) := ⟨_, rfl⟩
  have my : mulP (.int (p ^ m.toNat / 3)) (.int (b % 5)) = .ok (.int y) := by rw [hy]; exact mulP_ii (okMul_of (m := 100) (n := 10) (by omega) (by omega) (by omega) (by omega) (by omega))
  have yb : y.natAbs < 2 ^ 110 := by rw [hy]; exact mul_lt (m := 100) (n := 10) (by omega) (by omega) (by omega)
  obtain ⟨x1, hx1⟩ : ∃ x1, x1 = ((b * C).natAbs : Int) % 1000000000000000000000000000000 + y := ⟨_, rfl⟩
  have x1l : x1.natAbs.log2 < 1048779 := lgup (m := 120) (log2_lt (by omega) (by omega)) (by omega)
  have d6 := fdivP_sm (a := (b.natAbs : Int)) (b := 6) (by omega) (by omega)
  obtain ⟨z, fz, zl⟩ := f_fill ((b.natAbs : Int) / 6) p x1 pb (log2_le_lt (show ((b.natAbs : Int) / 6).natAbs ≤ b.natAbs by omega) hb) (by omega) (lgup x1l (by omega))
  obtain ⟨x2, hx2⟩ : ∃ x2, x2 = if plain = true then z else x1 := ⟨_, rfl⟩
  have x2l : x2.natAbs.log2 < 6000000 := by
    rw [hx2]
    split
    · exact zl
    · omega
  have mb2 := modP_pos (a := b) (b := 2) (by omega)
  have mxx : mulP (.int x2) (.int x2) = .ok (.int (x2 * x2)) := mulP_ii (okMul_log x2l x2l (by omega))
  obtain ⟨w, hw⟩ : ∃ w, w = (b % 2 == 1) := ⟨_, rfl⟩
  obtain ⟨x3, hx3⟩ : ∃ x3, x3 = if w = true then x2 * x2 else x2 := ⟨_, rfl⟩
  obtain ⟨e1, he1⟩ : ∃ e1, e1 = if w = true then e0 - e0 % 2 else e0 := ⟨_, rfl⟩
  have e1b : -21 ≤ e1 ∧ e1 ≤ 20 := by rw [he1]; split <;> omega
  have x3l : x3.natAbs.log2 < 12000000 := by
    rw [hx3]
    split
    · rw [Int.natAbs_mul]; exact lgm2 x2l x2l
    · omega
  have m8x : mulP (.int 8) (.int x3) = .ok (.int (8 * x3)) := mulP_ii (okMul_log (m := 10) (by decide) x3l (by omega))
  have mb3 := modP_pos (a := b) (b := 3) (by omega)
  obtain ⟨v, hv⟩ : ∃ v, v = (if (b % 3 == 1) = true then (p == 2) else false) := ⟨_, rfl⟩
  obtain ⟨x4, hx4⟩ : ∃ x4, x4 = if v = true then 8 * x3 + 1 else x3 := ⟨_, rfl⟩
  have fo := f_ofw p e1 x4 k pb (by omega)
  have ll := lead_le (digs p x4 k)
  rw [digs_len] at ll
  refine ⟨e1 + lead (digs p x4 k), PM.strip (digs p x4 k), ?_, lf_strip hp (digs_Dg pb.1 _ _) (by rw [digs_len]; omega), by omega, by omega⟩
  rw [← hk] at fo
  refine (runF_eq (n := 8) (u := D__law_left_by)).trans ?_
  show (D__law_left_by [.val (.int p), .val (.int a), .val (.int b), .val (.int c), .val (.bl plain), .un, .un, .un]).res = _
  unfold D__law_left_by
  refine stp (.int m) (by simp only [e2_eq, eC_eq, eVos, eVo0, bind1, m11]) ?_
  simp only [List.set_cons_succ, List.set_cons_zero]
  refine stp (.int e0) (by simp only [e2_eq, eC_eq, eVos, eVo0, bind1, m41, subP_ii, he0]) ?_
  simp only [List.set_cons_succ, List.set_cons_zero]
  refine stp (.int x1) (by simp only [e2_eq, eD_eq, aCons_eq, aNil_eq, eC_eq, eVs, eV0, eVos, eVo0, bind1, pC, mC, absP_i, p30, m30, pw, d3, m5, my, addP_ii, hx1]) ?_
  simp only [List.set_cons_succ, List.set_cons_zero]
  refine stpW (i := 7) plain (.int z) (.int x1) (.int x2) (by simp only [tB1_eq, eVs, eV0, bind1, asB_eq]) (fun _ => by simp only [e2_eq, eD_eq, aCons_eq, aNil_eq, eC_eq, eVs, eV0, eVos, eVo0, bind1, absP_i, d6, fz]) rfl (by rw [hx2]; split <;> rfl) ?_
  simp only [List.set_cons_succ, List.set_cons_zero]
  refine stpN (ρ' := [.val (.int p), .val (.int a), .val (.int b), .val (.int c), .val (.bl plain), .val (.int m), .val (.int e1), .val (.int x3)]) (by
    rw [sIf_eq, show tB1 (e2 eqP (e2 modP (eVo 2) (eC (.int 2))) (eC (.int 1))) [.val (.int p), .val (.int a), .val (.int b), .val (.int c), .val (.bl plain), .val (.int m), .val (.int e0), .val (.int x2)] = .ok w by simp only [tB1_eq, e2_eq, eC_eq, eVos, eVo0, bind1, mb2, eqP_ii, asB_eq, hw], stB_ok]
    cases w with
    | true =>
      rw [if_pos rfl] at hx3 he1
      rw [hx3, he1]
      simp only [if_true, bSeq_eq, sSet_eq, e2_eq, eC_eq, eVos, eVo0, bind1, mxx, me2, subP_ii, st_ok, then_next, List.set_cons_succ, List.set_cons_zero, bNil_eq]
    | false =>
      rw [if_neg Bool.false_ne_true] at hx3 he1
      rw [hx3, he1]
      simp only [if_neg Bool.false_ne_true, bNil_eq]) ?_
  refine stpW (i := 7) v (.int (8 * x3 + 1)) (.int x3) (.int x4) (by simp only [tAn_eq, tB1_eq, e2_eq, eC_eq, eVos, eVo0, bind1, mb3, eqP_ii, asB_eq, hv]; split <;> rfl) (fun _ => by simp only [e2_eq, eC_eq, eVos, eVo0, bind1, m8x, addP_ii]) rfl (by rw [hx4]; split <;> rfl) ?_
  simp only [List.set_cons_succ, List.set_cons_zero]
  simp only [bSeq_eq, sRet_eq, eD_eq, aCons_eq, aNil_eq, eVs, eV0, bind1, fo, st_ok, then_ret, res_ret]
def bg (p top b far : Int) (q : Int × List Int) : Bool := (top - b * U p q.2 * p ^ (q.1 + far).toNat) % p ^ (q.1 + q.2.length + far).toNat == 0
theorem f_begins {p top b far : Int} {q : Int × List Int} (hp : 2 ≤ p ∧ p ≤ 97) (hd : Dg p q.2) (hl : q.2.length ≤ 100) (h0 : 0 ≤ q.1 + far) (h1 : q.1 + far ≤ 1000) (hb : b.natAbs < 2 ^ 20) : F__law_begins [.int p, .int top, .int b, leftV p q.1 q.2, .int far] = .ok (.bl (bg p top b far q)) := by
  obtain ⟨l, ds⟩ := q
  dsimp only at hd hl h0 h1 ⊢
  obtain ⟨x0, x1, x2⟩ := ixT p l ds
  have un := f_unit_l p l ds hp.1 hp.2 hd (by omega)
  have sn := stemL ds
  have mx1 := maxP_ok 0 (l + far)
  rw [show max 0 (l + far) = l + far by omega] at mx1
  have mx2 := maxP_ok 0 (l + (ds.length : Int) + far)
  rw [show max 0 (l + (ds.length : Int) + far) = l + (ds.length : Int) + far by omega] at mx2
  have pw1 := f_power_l p (l + far) (by omega) h0 (by omega)
  have pw2 := f_power_l p (l + (ds.length : Int) + far) (by omega) (by omega) (by omega)
  have ub : (U p ds).natAbs < 2 ^ 1000 := by
    have := U_nonneg hp.1 hd
    have pw : (p ^ ds.length).natAbs < 2 ^ 1000 := Nat.lt_of_lt_of_le (pow_bound (m := 7) (by omega) _) (Nat.pow_le_pow_right (by omega) (by omega))
    omega
  have m1 : mulP (.int b) (.int (U p ds)) = .ok (.int (b * U p ds)) := mulP_ii (okMul_of hb ub (by omega) (by omega) (by omega))
  have bb := mul_bound hb ub
  have pwb : (p ^ (l + far).toNat).natAbs < 2 ^ 8000 := Nat.lt_of_lt_of_le (pow_bound (m := 7) (by omega) _) (Nat.pow_le_pow_right (by omega) (by omega))
  have m2 : mulP (.int (b * U p ds)) (.int (p ^ (l + far).toNat)) = .ok (.int (b * U p ds * p ^ (l + far).toNat)) := mulP_ii (okMul_of bb pwb (by omega) (by omega) (by omega))
  have mo := modP_pos (a := top - b * U p ds * p ^ (l + far).toNat) (b := p ^ (l + (ds.length : Int) + far).toNat) (Int.pow_pos (by omega))
  obtain ⟨V, hV⟩ : ∃ V, V = leftV p l ds := ⟨_, rfl⟩
  obtain ⟨G, hG⟩ : ∃ G, G = PV.tup (ds.map PV.int) := ⟨_, rfl⟩
  rw [← hV] at x1 x2 un
  rw [← hG] at x2 sn
  rw [← hV]
  refine (runF_eq (n := 7) (u := D__law_begins)).trans ?_
  show (D__law_begins [.val (.int p), .val (.int top), .val (.int b), .val V, .val (.int far), .un, .un]).res = _
  unfold D__law_begins
  refine stp (.int (l + (ds.length : Int) + far)) (by simp only [e2_eq, eD_eq, aCons_eq, aNil_eq, eC_eq, eVos, eVo0, bind1, x1, x2, sn, addP_ii]) ?_
  simp only [List.set_cons_succ, List.set_cons_zero]
  refine stp (.int (top - b * U p ds * p ^ (l + far).toNat)) (by simp only [e2_eq, eD_eq, aCons_eq, aNil_eq, eC_eq, eVs, eV0, eVos, eVo0, bind1, un, m1, x1, addP_ii, mx1, pw1, m2, subP_ii]) ?_
  simp only [List.set_cons_succ, List.set_cons_zero]
  simp only [bSeq_eq, sRet_eq, e2_eq, eD_eq, aCons_eq, aNil_eq, eC_eq, eVs, eV0, eVos, eVo0, bind1, mx2, pw2, mo, eqP_ii, st_ok, then_ret, res_ret]
  rfl
def LV (p : Int) (q : Int × List Int) : PV := leftV p q.1 q.2
structure RtOk (p : Int) (q : Int × List Int) : Prop where
  lf : Lf p q.2 12
  lo : -11 ≤ q.1
  hi : q.1 ≤ 40
theorem cnt1 {f : Int × List Int → Bool} {q : Int × List Int} {s : Bool} (h : s = true ↔ f q = true) : ([q].filter f).length ≤ 1 ∧ (s = true ↔ ([q].filter f).length = 1) := by
  cases c : f q with
  | true => rw [List.filter_cons_of_pos c, List.filter_nil, h, c]; simp
  | false => rw [List.filter_cons_of_neg (by rw [c]; decide), List.filter_nil, h, c]; simp
theorem cnt2 {f : Int × List Int → Bool} {q r : Int × List Int} {s : Bool} (hn : ¬(f q = true ∧ f r = true)) (h : s = true ↔ f q = true ∨ f r = true) : ([q, r].filter f).length ≤ 1 ∧ (s = true ↔ ([q, r].filter f).length = 1) := by
  cases c : f q <;> cases d : f r <;> simp [List.filter, c, d, h] <;> exact hn ⟨c, d⟩
theorem f_roots {p e : Int} {ds : List Int} (h : Lf p ds 10) (e0 : -21 ≤ e) (e1 : e ≤ 40) : ∃ S : List (Int × List Int), F_square_roots [leftV p e ds] = .ok (.lst (S.map (LV p))) ∧ S.length ≤ 2 ∧ (∀ q ∈ S, RtOk p q) ∧
    ∀ top b : Int, b % p ≠ 0 → (S.filter (bg p top b 12)).length ≤ 1 ∧ (bg p (top * top) (b * b) 24 (e, ds) = true ↔ (S.filter (bg p top b 12)).length = 1) := by
  have pb := h.b
  have hl := h.len
  have bgi : ∀ (top b far : Int) (q : Int × List Int), bg p top b far q = true ↔ p ^ (q.1 + q.2.length + far).toNat ∣ top - b * U p q.2 * p ^ (q.1 + far).toNat := fun top b far q => by
    unfold bg
    rw [beq_iff_eq]
    exact ⟨Int.dvd_of_emod_eq_zero, Int.emod_eq_zero_of_dvd⟩
  rcases f_squares (e := e) h (by omega) with ⟨h0, fs⟩ | ⟨h0, ns, fs⟩ | ⟨h0, ys, p2, l4, fs⟩ | ⟨h0, ys, l4, m, r, hm, Sr, fs⟩
  · refine ⟨[(-(-e / 2), [])], fs, by simp, fun q hq => ?_, fun top b hb => cnt1 ?_⟩
    · rw [List.mem_singleton.mp hq]
      exact ⟨⟨h.pr, (fun _ z => nomatch z), (fun z => nomatch z), by simp⟩, by dsimp only; omega, by dsimp only; omega⟩
    · rw [bgi, bgi]
      subst h0
      dsimp only
      have := sq_dvd (t := top) h.pr (k := (e + 24).toNat) (h := (-(-e / 2) + 12).toNat) (by omega)
      simp only [U, Int.mul_zero, Int.zero_mul, Int.sub_zero, List.length_nil]
      rw [show e + ((0 : Nat) : Int) + 24 = e + 24 by omega, show -(-e / 2) + ((0 : Nat) : Int) + 12 = -(-e / 2) + 12 by omega]
      exact this
  · refine ⟨[], fs, by simp, fun q hq => (List.not_mem_nil hq).elim, fun top b hb => ⟨by simp, ?_⟩⟩
    rw [bgi]
    dsimp only
    rw [show (e + (ds.length : Int) + 24).toNat = (e + 24).toNat + ds.length by omega]
    constructor
    · intro z
      exact absurd (sq_ok_of h h0 hb (show ((e + 24).toNat : Int) = e + 24 by omega) z) ns
    · intro z; simp at z
  · subst p2
    refine ⟨[(e / 2, [1])], fs, by simp, fun q hq => ?_, fun top b hb => cnt1 ?_⟩
    · rw [List.mem_singleton.mp hq]
      exact ⟨⟨h.pr, (fun x hx => by rw [List.mem_singleton.mp hx]; omega), (fun z => by cases z), by simp⟩, by dsimp only; omega, by dsimp only; omega⟩
    · rw [bgi, bgi]
      dsimp only
      have ev := ys.1
      have s2 := ys.2.1 rfl
      have l1 : 1 ≤ ds.length := List.length_pos_iff.mpr h0
      have hu : (2 : Int) ^ ds.length ∣ U 2 ds - 1 := by
        have dg := h.dg
        have hd := h.hd
        match ds, h0, l4 with
        | [a], _, _ =>
          have ha := dg a List.mem_cons_self
          have : a = 1 := by have : a ≠ 0 := fun z => hd (by rw [z]; rfl); omega
          subst this; exact ⟨0, by simp [U]⟩
        | [a, c], _, _ =>
          have ha := dg a List.mem_cons_self
          have : a = 1 := by have : a ≠ 0 := fun z => hd (by rw [z]; rfl); omega
          subst this
          have c0 : c = 0 := by have := eq_of_beq s2; simpa using this
          subst c0; exact ⟨0, by simp [U]⟩
        | [a, c, d], _, _ =>
          have ha := dg a List.mem_cons_self
          have : a = 1 := by have : a ≠ 0 := fun z => hd (by rw [z]; rfl); omega
          subst this
          have c0 : c = 0 ∧ d = 0 := by have := eq_of_beq s2; simpa using this
          obtain ⟨rfl, rfl⟩ := c0
          exact ⟨0, by simp [U]⟩
        | _ :: _ :: _ :: _ :: _, _, q => simp at q; omega
      have := sq_few (u := U 2 ds) (b := b) (top := top) (n := ds.length) (h := (e / 2 + 12).toNat) l1 (by omega) hu (by omega)
      rw [U_one, show (e + (ds.length : Int) + 24).toNat = 2 * (e / 2 + 12).toNat + ds.length by omega, show (e + 24).toNat = 2 * (e / 2 + 12).toNat by omega, show (e / 2 + (([1] : List Int).length : Int) + 12).toNat = (e / 2 + 12).toNat + 1 by simp; omega]
      exact this.symm
  · have l1 : 1 ≤ ds.length := List.length_pos_iff.mpr h0
    have m1 : 1 ≤ m := by
      rw [hm]
      split
      · rename_i q; have := l4 q; omega
      · exact l1
    have ml : m ≤ 10 := by rw [hm]; split <;> omega
    have hm' : (p ≠ 2 ∧ m = ds.length ∧ 1 ≤ ds.length) ∨ (p = 2 ∧ ds.length = m + 1 ∧ 3 ≤ m) := by
      by_cases p2 : p = 2
      · rw [if_pos p2] at hm
        have := l4 p2
        exact .inr ⟨p2, by omega, by omega⟩
      · rw [if_neg p2] at hm
        exact .inl ⟨p2, hm, l1⟩
    have S2 : Sq p ds.length m (U p ds) (p ^ m - r) := by
      refine other_root (by omega) m1 ?_ ?_ Sr
      · rcases hm' with ⟨q, rfl, n1⟩ | ⟨q, hn, m3⟩
        · exact ⟨2 * r, by grind⟩
        · subst q
          exact ⟨r, by rw [hn, Int.pow_succ]; grind⟩
      · rcases hm' with ⟨q, rfl, n1⟩ | ⟨q, hn, m3⟩ <;> omega
    have lfd : ∀ x : Int, Sq p ds.length m (U p ds) x → Lf p (digs p x m) 12 := fun x hx => by
      have := lead_of (p := p) (x := x) m1 hx.nz
      have q := lf_strip (n := 12) h.pr (digs_Dg pb.1 m x) (by rw [digs_len]; omega)
      rw [this.2] at q
      exact q
    have Ux : ∀ x : Int, Sq p ds.length m (U p ds) x → U p (digs p x m) = x := fun x hx => by
      rw [U_digs pb.1, Int.emod_eq_of_lt (by have := hx.lo; omega) hx.hi]
    have ev := ys.1
    have key : ∀ top b : Int, b % p ≠ 0 → ¬(bg p top b 12 (e / 2, digs p r m) = true ∧ bg p top b 12 (e / 2, digs p (p ^ m - r) m) = true) ∧ (bg p (top * top) (b * b) 24 (e, ds) = true ↔ bg p top b 12 (e / 2, digs p r m) = true ∨ bg p top b 12 (e / 2, digs p (p ^ m - r) m) = true) := fun top b hb => by
      have q := sq_two (top := top) h.pr (h := (e / 2 + 12).toNat) Sr hm' hb (U_head h h0)
      rw [bgi, bgi, bgi]
      dsimp only
      rw [Ux r Sr, Ux _ S2, digs_len, digs_len, show (e / 2 + (m : Int) + 12).toNat = (e / 2 + 12).toNat + m by omega, show (e + (ds.length : Int) + 24).toNat = 2 * (e / 2 + 12).toNat + ds.length by omega, show (e + 24).toNat = 2 * (e / 2 + 12).toNat by omega]
      exact q
    obtain ⟨T, sT, oT, sT2⟩ := sort_two (A := leftV p (e / 2) (digs p r m)) (B := leftV p (e / 2) (digs p (p ^ m - r) m)) ⟨_, _, _, rfl⟩ ⟨_, _, _, rfl⟩
    rw [sT] at fs
    have ok1 : RtOk p (e / 2, digs p r m) := ⟨lfd r Sr, by dsimp only; omega, by dsimp only; omega⟩
    have ok2 : RtOk p (e / 2, digs p (p ^ m - r) m) := ⟨lfd _ S2, by dsimp only; omega, by dsimp only; omega⟩
    rcases oT with rfl | rfl
    · refine ⟨[(e / 2, digs p r m), (e / 2, digs p (p ^ m - r) m)], fs, by simp, fun q hq => ?_, fun top b hb => cnt2 (key top b hb).1 (key top b hb).2⟩
      rcases List.mem_cons.mp hq with rfl | hq
      · exact ok1
      · rw [List.mem_singleton.mp hq]; exact ok2
    · refine ⟨[(e / 2, digs p (p ^ m - r) m), (e / 2, digs p r m)], fs, by simp, fun q hq => ?_, fun top b hb => cnt2 (fun z => (key top b hb).1 ⟨z.2, z.1⟩) ((key top b hb).2.trans Or.comm)⟩
      rcases List.mem_cons.mp hq with rfl | hq
      · exact ok2
      · rw [List.mem_singleton.mp hq]; exact ok1
theorem f_top {p a c bot : Int} {plain : Bool} {S : List (Int × List Int)} (hp : 2 ≤ p ∧ p ≤ 97) (hS : ∀ q ∈ S, RtOk p q) (hl : S.length ≤ 2) (ha : a.natAbs.log2 < 1048577) (hb : 1 ≤ bot ∧ bot ≤ 6) : ∃ t : Int, F__law_top [.int p, .lst (S.map (LV p)), .int a, .int c, .int bot, .bl plain] = .ok (.int t) ∧ t.natAbs.log2 < 2000000 := by
  have d24 := fdivP_sm (a := c) (b := 24) (by omega) (by omega)
  have p20 : powP (.int 10) (.int 20) = .ok (.int 100000000000000000000) := by rw [powP_sm (by omega) (by omega) (by omega) (by omega)]; rfl
  have m20 := modP_pos (a := c / 24) (b := 100000000000000000000) (by omega)
  obtain ⟨far, hfar⟩ : ∃ far, far = c / 24 % 100000000000000000000 := ⟨_, rfl⟩
  have far0 : 0 ≤ far ∧ far < 100000000000000000000 := by omega
  rw [← hfar] at m20
  have d4 := fdivP_sm (a := a) (b := 4) (by omega) (by omega)
  have m4 := modP_pos (a := a) (b := 4) (by omega)
  obtain ⟨g, hg⟩ : ∃ g, g = (S.isEmpty || (a % 4 == 3)) := ⟨_, rfl⟩
  obtain ⟨TR, hR⟩ : ∃ TR, TR = PV.lst (S.map (LV p)) := ⟨_, rfl⟩
  have eR : eqP TR (.lst []) = .ok (.bl S.isEmpty) := by
    rw [hR]
    cases S with
    | nil => exact eqP_self (by rw [okD_lst]; rfl)
    | cons q S =>
      have ok : okD 30 (.lst ((q :: S).map (LV p))) = true := by
        rw [okD_lst, List.all_map, List.all_eq_true]
        intro q _
        exact okD_leftV p q.1 q.2 27
      rw [eqP_ok ok (by rw [okD_lst]; rfl), List.map_cons, eqV_ll, eqVs_cn]; rfl
  have to : ∀ x y z u : Slot, tOr' (tB1 (e2 eqP (eVo 1) (eD lstP aNil))) (tB1 (e2 eqP (e2 modP (eVo 2) (eC (.int 4))) (eC (.int 3)))) [.val (.int p), .val TR, .val (.int a), .val (.int c), .val (.int bot), .val (.bl plain), x, y, z, u] = .ok g := fun x y z u => by
    rw [hg]
    exact tOr_v _ _ (by simp only [tB1_eq, e2_eq, eD_eq, aNil_eq, eVos, eVo0, bind1, lstP0, eR, asB_eq]) (by simp only [tB1_eq, e2_eq, eVos, eVo0, eC_eq, bind1, m4, eqP_ii, asB_eq])
  have ta : tAn (tB1 (eV 5)) (tOr' (tB1 (e2 eqP (eVo 1) (eD lstP aNil))) (tB1 (e2 eqP (e2 modP (eVo 2) (eC (.int 4))) (eC (.int 3))))) [.val (.int p), .val TR, .val (.int a), .val (.int c), .val (.int bot), .val (.bl plain), .val (.int far), .un, .un, .un] = .ok (plain && g) := tAn_v plain g (by simp only [tB1_eq, eVs, eV0, bind1, asB_eq]) (to _ _ _ _)
  have run : F__law_top [.int p, TR, .int a, .int c, .int bot, .bl plain] = (D__law_top [.val (.int p), .val TR, .val (.int a), .val (.int c), .val (.int bot), .val (.bl plain), .un, .un, .un, .un]).res := runF_eq (n := 10) (u := D__law_top)
  have head : ∀ {k : Rho → Out} {r : R PV}, (k [.val (.int p), .val TR, .val (.int a), .val (.int c), .val (.int bot), .val (.bl plain), .val (.int far), .un, .un, .un]).res = r → (bSeq (sSet 6 (e2 modP (e2 fdivP (eVo 3) (eC (.int 24))) (e2 powP (eC (.int 10)) (eC (.int 20))))) k [.val (.int p), .val TR, .val (.int a), .val (.int c), .val (.int bot), .val (.bl plain), .un, .un, .un, .un]).res = r := fun {k r} hk => by
    refine stp (.int far) (by simp only [e2_eq, eVos, eVo0, eC_eq, bind1, d24, p20, m20]) ?_
    simp only [List.set_cons_succ, List.set_cons_zero]
    exact hk
  have a4l : (a / 4).natAbs.log2 < 1048577 := log2_le_lt (show (a / 4).natAbs ≤ a.natAbs by omega) ha
  rw [← hR, run]
  unfold D__law_top
  cases g with
  | true =>
    cases plain with
    | true =>
      refine ⟨a / 4, head (ifT ta ?_), by omega⟩
      simp only [bSeq_eq, sRet_eq, e2_eq, eVos, eVo0, eC_eq, bind1, d4, st_ok, then_ret, res_ret]
    | false =>
      have mm := mulP_ii (okMul_log a4l (b := 48271) (n := 100) (log2_lt (by decide) (by omega)) (by omega))
      have mo := modP_pos (a := a / 4 * 48271) (b := 100000000000000000000) (by omega)
      have m30 := modP_pos (a := far) (b := 30) (by omega)
      have pw := f_power_l p (far % 30) (by omega) (by omega) (by omega)
      have pwb : (p ^ (far % 30).toNat).natAbs < 2 ^ 300 := Nat.lt_of_lt_of_le (pow_bound (m := 7) (by omega) _) (Nat.pow_le_pow_right (by omega) (by omega))
      have xb : (a / 4 * 48271 % 100000000000000000000).natAbs < 2 ^ 100 := by omega
      have m2 : mulP (.int (a / 4 * 48271 % 100000000000000000000)) (.int (p ^ (far % 30).toNat)) = .ok (.int (a / 4 * 48271 % 100000000000000000000 * p ^ (far % 30).toNat)) := mulP_ii (okMul_of xb pwb (by omega) (by omega) (by omega))
      refine ⟨_, head (skp ta (ifT (to _ _ _ _) (by
          simp only [bSeq_eq, sRet_eq, e2_eq, eD_eq, aCons_eq, aNil_eq, eVs, eV0, eVos, eVo0, eC_eq, bind1, d4, mm, p20, mo, m30, pw, m2, st_ok, then_ret, res_ret]; rfl))), ?_⟩
      exact lgup (log2_lt (mul_bound xb pwb) (by omega)) (by omega)
  | false =>
    have ne : S.isEmpty = false := by
      cases q : S.isEmpty with
      | false => rfl
      | true => rw [q] at hg; cases hg
    have l1 : 1 ≤ S.length := by
      cases S with
      | nil => cases ne
      | cons _ _ => simp
    have lR : lenP [TR] = .ok (.int S.length) := by rw [hR]; simp
    have mS := modP_pos (a := a / 4) (b := (S.length : Int)) (by omega)
    obtain ⟨rt, hrt, ix⟩ := ixP_ex (ps := S.map (LV p)) (Int.emod_nonneg (a / 4) (show (S.length : Int) ≠ 0 by omega)) (by rw [List.length_map]; exact Int.emod_lt_of_pos _ (by omega))
    rw [← hR] at ix
    obtain ⟨q, hq, rfl⟩ := List.mem_map.mp hrt
    have ok := hS q hq
    obtain ⟨l, dd⟩ := q
    have ol : dd.length ≤ 12 := ok.lf.len
    have lo : -11 ≤ l := ok.lo
    have hi : l ≤ 40 := ok.hi
    have dg : Dg p dd := ok.lf.dg
    obtain ⟨_, x1, x2⟩ := ixT p l dd
    have un := f_unit_l p l dd hp.1 hp.2 dg (by omega)
    have sn := stemL dd
    obtain ⟨V, hV⟩ : ∃ V, V = leftV p l dd := ⟨_, rfl⟩
    obtain ⟨G, hG⟩ : ∃ G, G = PV.tup (dd.map PV.int) := ⟨_, rfl⟩
    have ix' : ixP TR (.int (a / 4 % (S.length : Int))) = .ok V := by rw [hV]; exact ix
    rw [← hV] at x1 x2 un
    rw [← hG] at x2 sn
    obtain ⟨E, hE⟩ : ∃ E, E = l + (dd.length : Int) + 12 := ⟨_, rfl⟩
    have E0 : 1 ≤ E ∧ E ≤ 100 := by omega
    have pwE : ∀ j : Int, 0 ≤ j → j ≤ 100 → F__law_power [.int p, .int j] = .ok (.int (p ^ j.toNat)) ∧ (p ^ j.toNat).natAbs < 2 ^ 1000 := fun j j0 j1 => ⟨f_power_l p j (by omega) j0 (by omega), Nat.lt_of_lt_of_le (pow_bound (m := 7) (by omega) _) (Nat.pow_le_pow_right (by omega) (by omega))⟩
    obtain ⟨pw1, pb1⟩ := pwE (l + 12) (by omega) (by omega)
    obtain ⟨pw2, pb2⟩ := pwE E (by omega) (by omega)
    obtain ⟨pw3, pb3⟩ := pwE (E - 1) (by omega) (by omega)
    have d8 := fdivP_sm (a := a) (b := 8) (by omega) (by omega)
    have mE := modP_pos (a := a / 8) (b := E) (by omega)
    have mE0 := Int.emod_nonneg (a / 8) (show E ≠ 0 by omega)
    have mE1 := Int.emod_lt_of_pos (a / 8) (show 0 < E by omega)
    obtain ⟨pw4, pb4⟩ := pwE (E - 1 - a / 8 % E) (by omega) (by omega)
    have ub : (U p dd).natAbs < 2 ^ 1000 := by
      have := U_nonneg hp.1 dg
      have pw : (p ^ dd.length).natAbs < 2 ^ 1000 := Nat.lt_of_lt_of_le (pow_bound (m := 7) (by omega) _) (Nat.pow_le_pow_right (by omega) (by omega))
      omega
    have mu1 : mulP (.int (U p dd)) (.int (p ^ (l + 12).toNat)) = .ok (.int (U p dd * p ^ (l + 12).toNat)) := mulP_ii (okMul_of ub pb1 (by omega) (by omega) (by omega))
    have b1 := mul_bound ub pb1
    have mu2 : mulP (.int (U p dd * p ^ (l + 12).toNat)) (.int bot) = .ok (.int (U p dd * p ^ (l + 12).toNat * bot)) := mulP_ii (okMul_of (n := 10) b1 (by omega) (by omega) (by omega) (by omega))
    have b2 := mul_bound b1 (show bot.natAbs < 2 ^ 10 by omega)
    have fb : far.natAbs < 2 ^ 100 := by omega
    have mu3 : mulP (.int far) (.int (p ^ E.toNat)) = .ok (.int (far * p ^ E.toNat)) := mulP_ii (okMul_of fb pb2 (by omega) (by omega) (by omega))
    have b3 := mul_bound fb pb2
    have mp1 := modP_pos (a := far) (b := p - 1) (by omega)
    have mp0 := Int.emod_nonneg far (show p - 1 ≠ 0 by omega)
    have mp2 := Int.emod_lt_of_pos far (show 0 < p - 1 by omega)
    have kb : (1 + far % (p - 1)).natAbs < 2 ^ 10 := by omega
    have mu4 : mulP (.int (1 + far % (p - 1))) (.int (p ^ (E - 1).toNat)) = .ok (.int ((1 + far % (p - 1)) * p ^ (E - 1).toNat)) := mulP_ii (okMul_of kb pb3 (by omega) (by omega) (by omega))
    have mu5 : mulP (.int (1 + far % (p - 1))) (.int (p ^ (E - 1 - a / 8 % E).toNat)) = .ok (.int ((1 + far % (p - 1)) * p ^ (E - 1 - a / 8 % E).toNat)) := mulP_ii (okMul_of kb pb4 (by omega) (by omega) (by omega))
    have b4 := mul_bound kb pb3
    have b5 := mul_bound kb pb4
    obtain ⟨t0, ht0⟩ : ∃ t0, t0 = U p dd * p ^ (l + 12).toNat * bot + far * p ^ E.toNat := ⟨_, rfl⟩
    obtain ⟨t1, ht1⟩ : ∃ t1, t1 = if (a % 4 == 1) = true then t0 + (1 + far % (p - 1)) * p ^ (E - 1).toNat else t0 := ⟨_, rfl⟩
    obtain ⟨t2, ht2⟩ : ∃ t2, t2 = if (a % 4 == 2) = true then t1 + (1 + far % (p - 1)) * p ^ (E - 1 - a / 8 % E).toNat else t1 := ⟨_, rfl⟩
    have t2b : t2.natAbs < 2 ^ 3000 := by
      have k1 : (2 : Nat) ^ (1000 + 1000 + 10) * 8 ≤ 2 ^ 3000 := by rw [show (8 : Nat) = 2 ^ 3 from rfl, ← Nat.pow_add]; exact Nat.pow_le_pow_right (by omega) (by omega)
      have k2 : (2 : Nat) ^ (100 + 1000) ≤ 2 ^ (1000 + 1000 + 10) := Nat.pow_le_pow_right (by omega) (by omega)
      have k3 : (2 : Nat) ^ (10 + 1000) ≤ 2 ^ (1000 + 1000 + 10) := Nat.pow_le_pow_right (by omega) (by omega)
      have z0 := Int.natAbs_add_le (U p dd * p ^ (l + 12).toNat * bot) (far * p ^ E.toNat)
      have z1 : t1.natAbs ≤ t0.natAbs + ((1 + far % (p - 1)) * p ^ (E - 1).toNat).natAbs := by
        rw [ht1]
        split
        · exact Int.natAbs_add_le _ _
        · omega
      have z2 : t2.natAbs ≤ t1.natAbs + ((1 + far % (p - 1)) * p ^ (E - 1 - a / 8 % E).toNat).natAbs := by
        rw [ht2]
        split
        · exact Int.natAbs_add_le _ _
        · omega
      rw [← ht0] at z0
      omega
    refine ⟨t2, head (skp (by rw [ta, Bool.and_false]) (skp (to _ _ _ _) ?_)), lgup (log2_lt t2b (by omega)) (by omega)⟩
    refine stp V (by simp only [e2_eq, eD_eq, aCons_eq, aNil_eq, eVos, eVo0, eC_eq, bind1, d4, lR, mS, ix']) ?_
    simp only [List.set_cons_succ, List.set_cons_zero]
    refine stp (.int E) (by simp only [e2_eq, eD_eq, aCons_eq, aNil_eq, eVos, eVo0, eC_eq, bind1, x1, x2, sn, addP_ii, hE]) ?_
    simp only [List.set_cons_succ, List.set_cons_zero]
    refine stp (.int t0) (by simp only [e2_eq, eD_eq, aCons_eq, aNil_eq, eVs, eV0, eVos, eVo0, eC_eq, bind1, un, x1, addP_ii, pw1, mu1, mu2, pw2, mu3, ht0]) ?_
    simp only [List.set_cons_succ, List.set_cons_zero]
    refine stpW (i := 9) (a % 4 == 1) (.int (t0 + (1 + far % (p - 1)) * p ^ (E - 1).toNat)) (.int t0) (.int t1) (by simp only [tB1_eq, e2_eq, eVos, eVo0, eC_eq, bind1, m4, eqP_ii, asB_eq]) (fun _ => by simp only [e2_eq, eD_eq, aCons_eq, aNil_eq, eVs, eV0, eVos, eVo0, eC_eq, bind1, subP_ii, mp1, addP_ii, pw3, mu4]) rfl (by rw [ht1]; split <;> rfl) ?_
    simp only [List.set_cons_succ, List.set_cons_zero]
    refine stpW (i := 9) (a % 4 == 2) (.int (t1 + (1 + far % (p - 1)) * p ^ (E - 1 - a / 8 % E).toNat)) (.int t1) (.int t2) (by simp only [tB1_eq, e2_eq, eVos, eVo0, eC_eq, bind1, m4, eqP_ii, asB_eq]) (fun _ => by simp only [e2_eq, eD_eq, aCons_eq, aNil_eq, eVs, eV0, eVos, eVo0, eC_eq, bind1, subP_ii, mp1, addP_ii, d8, mE, pw4, mu5]) rfl (by rw [ht2]; split <;> rfl) ?_
    simp only [List.set_cons_succ, List.set_cons_zero]
    simp only [bSeq_eq, sRet_eq, eVs, eV0, st_ok, then_ret, res_ret]
theorem law_loop {p e : Int} {ds : List Int} {plain : Bool} {S : List (Int × List Int)} {C : List Int} (hp : p ∈ primesL) (hd : Lf p ds 10) (e0 : -21 ≤ e) (e1 : e ≤ 40) (hS : ∀ q ∈ S, RtOk p q) (hl : S.length ≤ 2) (hC : C.length ≤ 1000) (hCb : ∀ c ∈ C, c.natAbs.log2 < 1048577)
    (H : ∀ top b : Int, b % p ≠ 0 → (S.filter (bg p top b 12)).length ≤ 1 ∧ (bg p (top * top) (b * b) 24 (e, ds) = true ↔ (S.filter (bg p top b 12)).length = 1)) (Z : PV) : ∀ (items : List PV) (s6 s7 s8 s9 s10 : Slot), (∀ q ∈ items, ∃ k : Int, q = .int k ∧ 0 ≤ k ∧ k + 1 < C.length) →
    ∃ s6' s7' s8' s9' s10', forL (gN 6) (bSeq (sSet 7 (e2 addP (eC (.int 1)) (e2 modP (e2 ixP (eVo 5) (e2 addP (eVo 6) (eC (.int 1)))) (eC (.int 6))))) (bSeq (sIf (tB1 (e2 eqP (e2 modP (eVo 7) (eVo 1)) (eC (.int 0)))) (bSeq (sSet 7 (eC (.int 1))) bNil) bNil) (bSeq (sSet 8 (eD F__law_top (aCons (eV 1) (aCons (eV 4) (aCons (e2 ixP (eVo 5) (eVo 6)) (aCons (e2 ixP (eVo 5) (e2 addP (eVo 6) (eC (.int 1)))) (aCons (eV 7) (aCons (eV 2) aNil)))))))) (bSeq (sIf (tB1 (e2 eqP (e2 modP (e2 fdivP (e2 ixP (eVo 5) (e2 addP (eVo 6) (eC (.int 1)))) (eC (.int 6))) (eC (.int 4))) (eC (.int 1)))) (bSeq (sSet 8 (e2 subP (eC (.int 0)) (eVo 8))) bNil) bNil) (bSeq (sSet 9 (eLc [11] (iS (eV 4)) (gN 11) (tB1 (eD F__law_begins (aCons (eV 1) (aCons (eV 8) (aCons (eV 7) (aCons (eV 11) (aCons (eC (.int 12)) aNil))))))) (eV 11))) (bSeq (sSet 10 (eD F__law_begins (aCons (eV 1) (aCons (e2 mulP (eVo 8) (eVo 8)) (aCons (e2 mulP (eVo 7) (eVo 7)) (aCons (eV 3) (aCons (eC (.int 24)) aNil))))))) (bSeq (sIf (tOr' (tB1 (e2 gtP (eD lenP (aCons (eVo 9) aNil)) (eC (.int 1)))) (tB1 (e2 neP (eVo 10) (e2 eqP (eD lenP (aCons (eVo 9) aNil)) (eC (.int 1)))))) (bSeq (sRet (eC (.bl false))) bNil) bNil) bNil))))))) items [.val Z, .val (.int p), .val (.bl plain), .val (leftV p e ds), .val (.lst (S.map (LV p))), .val (.lst (C.map PV.int)), s6, s7, s8, s9, s10, .un] = .next [.val Z, .val (.int p), .val (.bl plain), .val (leftV p e ds), .val (.lst (S.map (LV p))), .val (.lst (C.map PV.int)), s6', s7', s8', s9', s10', .un]
  | [], s6, s7, s8, s9, s10, _ => ⟨s6, s7, s8, s9, s10, by rw [forL_nil]⟩
  | q :: items, s6, s7, s8, s9, s10, hi => by
    have pb := primesL_le p hp
    obtain ⟨k, rfl, k0, k1⟩ := hi q List.mem_cons_self
    have c1 : ixP (.lst (C.map PV.int)) (.int k) = .ok (.int (nth C k)) := ixP_ints k0 (by omega)
    have c2 : ixP (.lst (C.map PV.int)) (.int (k + 1)) = .ok (.int (nth C (k + 1))) := ixP_ints (by omega) (by omega)
    have xm := hCb _ (nth_mem (l := C) k0 (by omega))
    obtain ⟨x, hx⟩ : ∃ x, x = nth C k := ⟨_, rfl⟩
    obtain ⟨y, hy⟩ : ∃ y, y = nth C (k + 1) := ⟨_, rfl⟩
    rw [← hx] at c1 xm
    rw [← hy] at c2
    have m6 := modP_pos (a := y) (b := 6) (by omega)
    have mq := modP_pos (a := 1 + y % 6) (b := p) (by omega)
    obtain ⟨b, hb⟩ : ∃ b, b = if ((1 + y % 6) % p == 0) = true then 1 else 1 + y % 6 := ⟨_, rfl⟩
    have b6 : 1 ≤ b ∧ b ≤ 6 := by rw [hb]; split <;> omega
    have bp : b % p ≠ 0 := by
      rw [hb]
      by_cases q : (1 + y % 6) % p = 0
      · rw [if_pos (by rw [beq_iff_eq]; exact q), Int.emod_eq_of_lt (by omega) (by omega)]; omega
      · rw [if_neg (by rw [beq_iff_eq]; exact q)]; exact q
    obtain ⟨t, ft, tl⟩ := f_top (p := p) (a := x) (c := y) (bot := b) (plain := plain) pb hS hl xm b6
    have d6 := fdivP_sm (a := y) (b := 6) (by omega) (by omega)
    have m4 := modP_pos (a := y / 6) (b := 4) (by omega)
    obtain ⟨u, hu⟩ : ∃ u, u = if (y / 6 % 4 == 1) = true then 0 - t else t := ⟨_, rfl⟩
    have ul : u.natAbs.log2 < 2000000 := by
      rw [hu]
      split
      · exact log2_le_lt (show (0 - t).natAbs ≤ t.natAbs by omega) tl
      · exact tl
    obtain ⟨h1, h2⟩ := H u b bp
    have muu := mulP_ii (okMul_log ul ul (by omega))
    have mbb : mulP (.int b) (.int b) = .ok (.int (b * b)) := mulP_sm (by omega) (by omega) (by omega) (by omega)
    have bbb : (b * b).natAbs < 2 ^ 20 := mul_lt (m := 10) (n := 10) (by omega) (by omega) (by omega)
    have fs := f_begins (top := u * u) (b := b * b) (far := 24) (q := (e, ds)) pb hd.dg (by have := hd.len; dsimp only; omega) (by dsimp only; omega) (by dsimp only; omega) bbb
    dsimp only at fs
    obtain ⟨V, hV⟩ : ∃ V, V = leftV p e ds := ⟨_, rfl⟩
    obtain ⟨TR, hT⟩ : ∃ TR, TR = PV.lst (S.map (LV p)) := ⟨_, rfl⟩
    obtain ⟨TC, hTC⟩ : ∃ TC, TC = PV.lst (C.map PV.int) := ⟨_, rfl⟩
    have aT : asS TR = .ok (S.map (LV p)) := by rw [hT]; rfl
    have go : lcGo (gN 11) (tB1 (eD F__law_begins (aCons (eV 1) (aCons (eV 8) (aCons (eV 7) (aCons (eV 11) (aCons (eC (.int 12)) aNil))))))) (eV 11) [.val Z, .val (.int p), .val (.bl plain), .val V, .val TR, .val TC, .val (.int k), .val (.int b), .val (.int u), s9, s10, .un] (S.map (LV p)) = .ok ((S.filter (bg p u b 12)).map (LV p)) := by
      refine lc_rowsF (LV p) (LV p) (bg p u b 12) S fun q hq => ⟨[.val Z, .val (.int p), .val (.bl plain), .val V, .val TR, .val TC, .val (.int k), .val (.int b), .val (.int u), s9, s10, .val (LV p q)], rfl, ?_, fun _ => rfl⟩
      have ok := hS q hq
      have fb := f_begins (top := u) (b := b) (far := 12) (q := q) pb ok.lf.dg (by have := ok.lf.len; omega) (by have := ok.lo; omega) (by have := ok.hi; omega) (by omega)
      have fb' : F__law_begins [.int p, .int u, .int b, LV p q, .int 12] = .ok (.bl (bg p u b 12 q)) := fb
      simp only [tB1_eq, eD_eq, aCons_eq, aNil_eq, eVs, eV0, eC_eq, bind1, fb', asB_eq]
    have L := eLc_ok (vs := [11]) (it := iS (eV 4)) (ρ := [.val Z, .val (.int p), .val (.bl plain), .val V, .val TR, .val TC, .val (.int k), .val (.int b), .val (.int u), s9, s10, .un]) (items := S.map (LV p)) rfl (by simp only [iS_eq, eVs, eV0, bind1, aT]) (by rw [List.length_map]; omega) go
    obtain ⟨B, hB⟩ : ∃ B, B = S.filter (bg p u b 12) := ⟨_, rfl⟩
    rw [← hB] at L h1 h2
    have lB : lenP [.lst (B.map (LV p))] = .ok (.int B.length) := by simp
    obtain ⟨sq, hsq⟩ : ∃ sq, sq = bg p (u * u) (b * b) 24 (e, ds) := ⟨_, rfl⟩
    rw [← hsq] at h2 fs
    have g1 : decide (1 < (B.length : Int)) = false := decide_eq_false (by omega)
    have g2 : neP (.bl sq) (.bl ((B.length : Int) == 1)) = .ok (.bl false) := by
      have : sq = ((B.length : Int) == 1) := by
        cases sq with
        | true =>
          have := h2.mp rfl
          rw [this]; rfl
        | false =>
          symm
          rw [beq_eq_false_iff_ne]
          intro z
          have := h2.mpr (by omega)
          cases this
      rw [← this, neP_bb]; cases sq <;> rfl
    rw [← hT] at ft
    rw [← hTC] at c1 c2
    rw [← hV] at fs
    obtain ⟨u6, u7, u8, u9, u10, ih⟩ := law_loop hp hd e0 e1 hS hl hC hCb H Z items (.val (.int k)) (.val (.int b)) (.val (.int u)) (.val (.lst (B.map (LV p)))) (.val (.bl sq)) (fun q hq => hi q (List.mem_cons_of_mem _ hq))
    rw [← hV, ← hT, ← hTC] at ih ⊢
    refine ⟨u6, u7, u8, u9, u10, ?_⟩
    rw [← ih, forL_cons, gN_eq, onR_some]
    simp only [List.set_cons_succ, List.set_cons_zero]
    refine foN' ?_ rfl
    refine sqS (.int (1 + y % 6)) (by simp only [e2_eq, eVos, eVo0, eC_eq, bind1, addP_ii, c2, m6]) ?_
    simp only [List.set_cons_succ, List.set_cons_zero]
    refine sqN (ρ' := [.val Z, .val (.int p), .val (.bl plain), .val V, .val TR, .val TC, .val (.int k), .val (.int b), s8, s9, s10, .un]) (by
      rw [sIf_eq, show tB1 (e2 eqP (e2 modP (eVo 7) (eVo 1)) (eC (.int 0))) [.val Z, .val (.int p), .val (.bl plain), .val V, .val TR, .val TC, .val (.int k), .val (.int (1 + y % 6)), s8, s9, s10, .un] = .ok ((1 + y % 6) % p == 0) by simp only [tB1_eq, e2_eq, eVos, eVo0, eC_eq, bind1, mq, eqP_ii, asB_eq], stB_ok]
      cases w : ((1 + y % 6) % p == 0) with
      | true =>
        rw [w, if_pos rfl] at hb
        rw [hb]
        simp only [if_true, bSeq_eq, sSet_eq, eC_eq, st_ok, then_next, bNil_eq, List.set_cons_succ, List.set_cons_zero]
      | false =>
        rw [w, if_neg Bool.false_ne_true] at hb
        rw [hb]
        simp only [if_neg Bool.false_ne_true, bNil_eq]) ?_
    refine sqS (.int t) (by simp only [e2_eq, eD_eq, aCons_eq, aNil_eq, eVs, eV0, eVos, eVo0, eC_eq, bind1, addP_ii, c1, c2, ft]) ?_
    simp only [List.set_cons_succ, List.set_cons_zero]
    refine sqN (ρ' := [.val Z, .val (.int p), .val (.bl plain), .val V, .val TR, .val TC, .val (.int k), .val (.int b), .val (.int u), s9, s10, .un]) (by
      rw [sIf_eq, show tB1 (e2 eqP (e2 modP (e2 fdivP (e2 ixP (eVo 5) (e2 addP (eVo 6) (eC (.int 1)))) (eC (.int 6))) (eC (.int 4))) (eC (.int 1))) [.val Z, .val (.int p), .val (.bl plain), .val V, .val TR, .val TC, .val (.int k), .val (.int b), .val (.int t), s9, s10, .un] = .ok (y / 6 % 4 == 1) by simp only [tB1_eq, e2_eq, eVos, eVo0, eC_eq, bind1, addP_ii, c2, d6, m4, eqP_ii, asB_eq], stB_ok]
      cases w : (y / 6 % 4 == 1) with
      | true =>
        rw [w, if_pos rfl] at hu
        rw [hu]
        simp only [if_true, bSeq_eq, sSet_eq, e2_eq, eVos, eVo0, eC_eq, bind1, subP_ii, st_ok, then_next, bNil_eq, List.set_cons_succ, List.set_cons_zero]
      | false =>
        rw [w, if_neg Bool.false_ne_true] at hu
        rw [hu]
        simp only [if_neg Bool.false_ne_true, bNil_eq]) ?_
    refine sqS (.lst (B.map (LV p))) L ?_
    simp only [List.set_cons_succ, List.set_cons_zero]
    refine sqS (.bl sq) (by simp only [e2_eq, eD_eq, aCons_eq, aNil_eq, eVs, eV0, eVos, eVo0, eC_eq, bind1, muu, mbb, fs]) ?_
    simp only [List.set_cons_succ, List.set_cons_zero]
    refine sqK ?_ (by rw [bNil_eq])
    simp only [tOr_eq, tB1_eq, e2_eq, eD_eq, aCons_eq, aNil_eq, eVos, eVo0, eC_eq, bind1, lB, gtP_ii, g1, asB_eq, if_neg Bool.false_ne_true, eqP_ii, g2]
theorem law_true : ∀ ns : List Int, ns.length ≤ 63 → (∀ z ∈ ns, z.natAbs.log2 < 1048577) → F_law [.frz (ns.map PV.int)] = .ok (.bl true) := by
  intro ns hns hb
  have c0 := f_cell ns 0 (by omega)
  have c1 := f_cell ns 1 (by omega)
  have c2 := f_cell ns 2 (by omega)
  have c3 := f_cell ns 3 (by omega)
  have fp := f_prime (nth ns 0)
  have pin := prime_in (nth ns 0)
  have d28 := fdivP_sm (a := nth ns 0) (b := 28) (by omega) (by omega)
  have m2 := modP_pos (a := nth ns 0 / 28) (b := 2) (by omega)
  obtain ⟨p, hp⟩ : ∃ p, p = nth primes28 (nth ns 0 % 28) := ⟨_, rfl⟩
  rw [← hp] at fp pin
  obtain ⟨plain, hpl⟩ : ∃ plain, plain = (nth ns 0 / 28 % 2 == 1) := ⟨_, rfl⟩
  obtain ⟨e, ds, fl, lf, e0, e1⟩ := f_left_by (p := p) (a := nth ns 1) (b := nth ns 2) (c := nth ns 3) (plain := plain) pin (nth_log ns hb 2)
  obtain ⟨S, fs, Sl, hS, H⟩ := f_roots lf e0 e1
  obtain ⟨C, hC⟩ : ∃ C : List Int, C = cutG ns (some 4) (some 44) ++ [0, 0] := ⟨_, rfl⟩
  have cl := cut_len ns (some 4) (some 44)
  have Cl : 2 ≤ C.length ∧ C.length ≤ 100 := by rw [hC, List.length_append]; simp; omega
  have Cb : ∀ c ∈ C, c.natAbs.log2 < 1048577 := fun c hc => by
    rw [hC] at hc
    rcases List.mem_append.mp hc with h | h
    · exact hb c (cut_mem _ _ _ c h)
    · have : c = 0 := by simpa using h
      rw [this]; decide
  obtain ⟨Z, hZ⟩ : ∃ Z, Z = PV.frz (ns.map PV.int) := ⟨_, rfl⟩
  have sl : slP Z (some 4) (some 44) = .ok (.lst ((cutG ns (some 4) (some 44)).map PV.int)) := by rw [hZ, slP_f, cut_map]
  have ad : addP (.lst ((cutG ns (some 4) (some 44)).map PV.int)) (.lst [.int 0, .int 0]) = .ok (.lst (C.map PV.int)) := by
    rw [addP_ok (by rw [List.length_map]; simp; omega), hC, List.map_append]; rfl
  have r3 : rng3S [.int 0, .int ((C.length : Int) - 1), .int 2] = .ok (rngUp 0 2 (rngN 0 ((C.length : Int) - 1) 2)) := rng3S_ok (by omega) (by omega) (by omega) (by omega) (by omega) (by omega)
  have lC : lenP [.lst (C.map PV.int)] = .ok (.int C.length) := by simp
  obtain ⟨u6, u7, u8, u9, u10, i⟩ := law_loop (plain := plain) pin lf e0 e1 hS Sl (by omega) Cb H Z (rngUp 0 2 (rngN 0 ((C.length : Int) - 1) 2)) .un .un .un .un .un (fun q hq => by
    unfold rngUp at hq
    obtain ⟨j, hj, rfl⟩ := List.mem_map.mp hq
    have hj := List.mem_range.mp hj
    unfold rngN at hj
    rw [if_pos (by omega)] at hj
    exact ⟨_, rfl, by omega, by omega⟩)
  have il : isiP "list" (.lst (S.map (LV p))) = .ok (.bl true) := rfl
  obtain ⟨V, hV⟩ : ∃ V, V = leftV p e ds := ⟨_, rfl⟩
  rw [← hV] at fl fs i
  rw [← hZ] at c0 c1 c2 c3
  have go : lcGo (gN 11) cYes (eD F__law_is_left (aCons (eV 11) (aCons (eV 1) aNil))) [.val Z, .val (.int p), .val (.bl plain), .val V, .val (.lst (S.map (LV p))), .un, .un, .un, .un, .un, .un, .un] (S.map (LV p)) = .ok ((S.map fun _ => true).map PV.bl) := by
    rw [List.map_map]
    refine lc_rows (LV p) _ S fun q hq => ⟨[.val Z, .val (.int p), .val (.bl plain), .val V, .val (.lst (S.map (LV p))), .un, .un, .un, .un, .un, .un, .val (LV p q)], rfl, ?_⟩
    have fl : F__law_is_left [LV p q, .int p] = .ok (.bl true) := f_is_left_l p q.1 q.2 12 (hS q hq).lf (by omega)
    simp only [eD_eq, aCons_eq, aNil_eq, eVs, eV0, bind1, fl, Function.comp]
  have L := eLc_ok (vs := [11]) (it := iS (eV 4)) (ρ := [.val Z, .val (.int p), .val (.bl plain), .val V, .val (.lst (S.map (LV p))), .un, .un, .un, .un, .un, .un, .un]) (items := S.map (LV p)) rfl (by simp only [iS_eq, eVs, eV0, bind1, asS_l]) (by rw [List.length_map]; omega) go
  have al : allP [.lst ((S.map fun _ => true).map PV.bl)] = .ok (.bl true) := by rw [allP_bl]; congr 2; simp
  have l2 : lstP [.int 0, .int 0] = .ok (.lst [.int 0, .int 0]) := rfl
  rw [← hZ]
  refine (runF_eq (n := 12) (u := D_law)).trans ?_
  show (D_law [.val Z, .un, .un, .un, .un, .un, .un, .un, .un, .un, .un, .un]).res = _
  unfold D_law
  refine stp (.int p) (by simp only [eD_eq, aCons_eq, aNil_eq, eV0, eC_eq, bind1, c0, fp]) ?_
  simp only [List.set_cons_succ, List.set_cons_zero]
  refine stp (.bl plain) (by simp only [e2_eq, eD_eq, aCons_eq, aNil_eq, eV0, eC_eq, bind1, c0, d28, m2, eqP_ii, hpl]) ?_
  simp only [List.set_cons_succ, List.set_cons_zero]
  refine stp V (by simp only [eD_eq, aCons_eq, aNil_eq, eVs, eV0, eC_eq, bind1, c1, c2, c3, fl]) ?_
  simp only [List.set_cons_succ, List.set_cons_zero]
  refine stp (.lst (S.map (LV p))) (by simp only [eD_eq, aCons_eq, aNil_eq, eVs, eV0, bind1, fs]) ?_
  simp only [List.set_cons_succ, List.set_cons_zero]
  refine skp (by simp only [tOr_eq, tNt_eq, tB1_eq, e1_eq, eD_eq, aCons_eq, aNil_eq, eVos, eVo0, bind1, il, L, al, asB_eq, Bool.not_true, if_neg Bool.false_ne_true]) ?_
  refine stp (.lst (C.map PV.int)) (by simp only [e2_eq, eSl_eq, oSome_eq, eD_eq, aCons_eq, aNil_eq, eVo0, eC_eq, bind1, asI_eq, sl, l2, ad]) ?_
  simp only [List.set_cons_succ, List.set_cons_zero]
  refine stpFor (rngUp 0 2 (rngN 0 ((C.length : Int) - 1) 2)) _ (by simp only [iR_eq, aCons_eq, aNil_eq, e2_eq, eD_eq, eVos, eVo0, eC_eq, bind1, lC, subP_ii, r3]) i ?_
  simp only [bSeq_eq, sRet_eq, eC_eq, st_ok, then_ret, res_ret]
end K82
set_option Elab.async false
set_option linter.all false
set_option maxRecDepth 100000
set_option autoImplicit false
set_option maxHeartbeats 0
namespace K82
open PySem PySem.Spec L2 PL PM
open PyProof.Rows hiding St
def topS (i : Nat) : Stmt := PySem.Challenge.pw_leftnumbers_k82_whole_which_squares.main.body.getD i (.Pass ⟨0, 0, 0, 0⟩)
abbrev st_is_whole : Stmt := topS 7
theorem sc_is_whole : FnScope ["thing"] ["thing"] (defScope st_is_whole) := ⟨rfl, rfl, rfl, by decide +kernel, rfl, by decide +kernel, by decide +kernel⟩
abbrev st_is_prime : Stmt := topS 8
theorem sc_is_prime : FnScope ["thing", "part"] ["thing"] (defScope st_is_prime) := ⟨rfl, rfl, rfl, by decide +kernel, rfl, by decide +kernel, by decide +kernel⟩
abbrev st_power_of : Stmt := topS 9
theorem sc_power_of : FnScope ["p", "times", "found", "k"] ["p", "times"] (defScope st_power_of) := ⟨rfl, rfl, rfl, by decide +kernel, rfl, by decide +kernel, by decide +kernel⟩
abbrev st_are_figures : Stmt := topS 11
theorem sc_are_figures : FnScope ["p", "figures", "one"] ["p", "figures"] (defScope st_are_figures) := ⟨rfl, rfl, rfl, by decide +kernel, rfl, by decide +kernel, by decide +kernel⟩
abbrev st_left_number : Stmt := topS 12
theorem sc_left_number : FnScope ["p", "least", "figures", "noughts"] ["p", "least", "figures"] (defScope st_left_number) := ⟨rfl, rfl, rfl, by decide +kernel, rfl, by decide +kernel, by decide +kernel⟩
abbrev st_known_of : Stmt := topS 13
theorem sc_known_of : FnScope ["one"] ["one"] (defScope st_known_of) := ⟨rfl, rfl, rfl, by decide +kernel, rfl, by decide +kernel, by decide +kernel⟩
abbrev st_unit_of : Stmt := topS 14
theorem sc_unit_of : FnScope ["one", "found", "digit"] ["one"] (defScope st_unit_of) := ⟨rfl, rfl, rfl, by decide +kernel, rfl, by decide +kernel, by decide +kernel⟩
abbrev st_of_whole : Stmt := topS 15
theorem sc_of_whole : FnScope ["p", "least", "number", "many", "figures", "k", "digit"] ["p", "least", "number", "many"] (defScope st_of_whole) := ⟨rfl, rfl, rfl, by decide +kernel, rfl, by decide +kernel, by decide +kernel⟩
abbrev st_undone : Stmt := topS 17
theorem sc_undone : FnScope ["p", "number", "digit"] ["p", "number"] (defScope st_undone) := ⟨rfl, rfl, rfl, by decide +kernel, rfl, by decide +kernel, by decide +kernel⟩
abbrev st_odd_roots : Stmt := topS 19
theorem sc_odd_roots : FnScope ["one", "first", "p", "least", "many", "unit", "turn", "root", "by", "k", "number"] ["one", "first"] (defScope st_odd_roots) := ⟨rfl, rfl, rfl, by decide +kernel, rfl, by decide +kernel, by decide +kernel⟩
abbrev st_even_roots : Stmt := topS 20
theorem sc_even_roots : FnScope ["one", "least", "figures", "unit", "root", "k", "many", "number"] ["one"] (defScope st_even_roots) := ⟨rfl, rfl, rfl, by decide +kernel, rfl, by decide +kernel, by decide +kernel⟩
abbrev st_square_roots : Stmt := topS 21
theorem sc_square_roots : FnScope ["one", "p", "least", "figures", "digit"] ["one"] (defScope st_square_roots) := ⟨rfl, rfl, rfl, by decide +kernel, rfl, by decide +kernel, by decide +kernel⟩
abbrev st__law_cell_at : Stmt := topS 23
theorem sc__law_cell_at : FnScope ["_law_script", "_law_k"] ["_law_script", "_law_k"] (defScope st__law_cell_at) := ⟨rfl, rfl, rfl, by decide +kernel, rfl, by decide +kernel, by decide +kernel⟩
abbrev st__law_whole : Stmt := topS 24
theorem sc__law_whole : FnScope ["_law_found"] ["_law_found"] (defScope st__law_whole) := ⟨rfl, rfl, rfl, by decide +kernel, rfl, by decide +kernel, by decide +kernel⟩
abbrev st__law_prime : Stmt := topS 25
theorem sc__law_prime : FnScope ["_law_cell", "_law_some"] ["_law_cell"] (defScope st__law_prime) := ⟨rfl, rfl, rfl, by decide +kernel, rfl, by decide +kernel, by decide +kernel⟩
abbrev st__law_power : Stmt := topS 26
theorem sc__law_power : FnScope ["_law_p", "_law_times", "_law_found", "_law_k"] ["_law_p", "_law_times"] (defScope st__law_power) := ⟨rfl, rfl, rfl, by decide +kernel, rfl, by decide +kernel, by decide +kernel⟩
abbrev st__law_is_left : Stmt := topS 27
theorem sc__law_is_left : FnScope ["_law_found", "_law_p", "_law_digit"] ["_law_found", "_law_p"] (defScope st__law_is_left) := ⟨rfl, rfl, rfl, by decide +kernel, rfl, by decide +kernel, by decide +kernel⟩
abbrev st__law_unit : Stmt := topS 28
theorem sc__law_unit : FnScope ["_law_one", "_law_found", "_law_digit"] ["_law_one"] (defScope st__law_unit) := ⟨rfl, rfl, rfl, by decide +kernel, rfl, by decide +kernel, by decide +kernel⟩
abbrev st__law_of_whole : Stmt := topS 29
theorem sc__law_of_whole : FnScope ["_law_p", "_law_least", "_law_number", "_law_many", "_law_figures", "_law_k"] ["_law_p", "_law_least", "_law_number", "_law_many"] (defScope st__law_of_whole) := ⟨rfl, rfl, rfl, by decide +kernel, rfl, by decide +kernel, by decide +kernel⟩
abbrev st__law_filled : Stmt := topS 30
theorem sc__law_filled : FnScope ["_law_number", "_law_p", "_law_more", "_law_top_here"] ["_law_number", "_law_p", "_law_more"] (defScope st__law_filled) := ⟨rfl, rfl, rfl, by decide +kernel, rfl, by decide +kernel, by decide +kernel⟩
abbrev st__law_left_by : Stmt := topS 31
theorem sc__law_left_by : FnScope ["_law_p", "_law_a", "_law_b", "_law_c", "_law_plain", "_law_many", "_law_least", "_law_number"] ["_law_p", "_law_a", "_law_b", "_law_c", "_law_plain"] (defScope st__law_left_by) := ⟨rfl, rfl, rfl, by decide +kernel, rfl, by decide +kernel, by decide +kernel⟩
abbrev st__law_begins : Stmt := topS 32
theorem sc__law_begins : FnScope ["_law_p", "_law_top_here", "_law_bottom", "_law_one", "_law_far", "_law_end", "_law_apart"] ["_law_p", "_law_top_here", "_law_bottom", "_law_one", "_law_far"] (defScope st__law_begins) := ⟨rfl, rfl, rfl, by decide +kernel, rfl, by decide +kernel, by decide +kernel⟩
abbrev st__law_top : Stmt := topS 33
theorem sc__law_top : FnScope ["_law_p", "_law_roots", "_law_a", "_law_b", "_law_bottom", "_law_plain", "_law_far", "_law_root", "_law_end", "_law_top_here"] ["_law_p", "_law_roots", "_law_a", "_law_b", "_law_bottom", "_law_plain"] (defScope st__law_top) := ⟨rfl, rfl, rfl, by decide +kernel, rfl, by decide +kernel, by decide +kernel⟩
abbrev st_law : Stmt := topS 34
theorem sc_law : FnScope ["_law_script", "_law_p", "_law_plain", "_law_one", "_law_roots", "_law_cells", "_law_k", "_law_bottom", "_law_top_here", "_law_begun", "_law_square", "_law_root"] ["_law_script"] (defScope st_law) := ⟨rfl, rfl, rfl, by decide +kernel, rfl, by decide +kernel, by decide +kernel⟩
structure Tx (K : PySem.W.Frag) (mg : Str → Option Value) : Prop where
  d_is_whole : DefE K mg "is_whole" st_is_whole ["thing"]
  d_is_prime : DefE K mg "is_prime" st_is_prime ["thing"]
  d_power_of : DefE K mg "power_of" st_power_of ["p", "times"]
  d_are_figures : DefE K mg "are_figures" st_are_figures ["p", "figures"]
  d_left_number : DefE K mg "left_number" st_left_number ["p", "least", "figures"]
  d_known_of : DefE K mg "known_of" st_known_of ["one"]
  d_unit_of : DefE K mg "unit_of" st_unit_of ["one"]
  d_of_whole : DefE K mg "of_whole" st_of_whole ["p", "least", "number", "many"]
  d_undone : DefE K mg "undone" st_undone ["p", "number"]
  d_odd_roots : DefE K mg "odd_roots" st_odd_roots ["one", "first"]
  d_even_roots : DefE K mg "even_roots" st_even_roots ["one"]
  d_square_roots : DefE K mg "square_roots" st_square_roots ["one"]
  d__law_cell_at : DefE K mg "_law_cell_at" st__law_cell_at ["_law_script", "_law_k"]
  d__law_whole : DefE K mg "_law_whole" st__law_whole ["_law_found"]
  d__law_prime : DefE K mg "_law_prime" st__law_prime ["_law_cell"]
  d__law_power : DefE K mg "_law_power" st__law_power ["_law_p", "_law_times"]
  d__law_is_left : DefE K mg "_law_is_left" st__law_is_left ["_law_found", "_law_p"]
  d__law_unit : DefE K mg "_law_unit" st__law_unit ["_law_one"]
  d__law_of_whole : DefE K mg "_law_of_whole" st__law_of_whole ["_law_p", "_law_least", "_law_number", "_law_many"]
  d__law_filled : DefE K mg "_law_filled" st__law_filled ["_law_number", "_law_p", "_law_more"]
  d__law_left_by : DefE K mg "_law_left_by" st__law_left_by ["_law_p", "_law_a", "_law_b", "_law_c", "_law_plain"]
  d__law_begins : DefE K mg "_law_begins" st__law_begins ["_law_p", "_law_top_here", "_law_bottom", "_law_one", "_law_far"]
  d__law_top : DefE K mg "_law_top" st__law_top ["_law_p", "_law_roots", "_law_a", "_law_b", "_law_bottom", "_law_plain"]
  n_abs : mg "abs" = none
  n_all : mg "all" = none
  n_bool : mg "bool" = none
  n_divmod : mg "divmod" = none
  n_int : mg "int" = none
  n_isinstance : mg "isinstance" = none
  n_len : mg "len" = none
  n_list : mg "list" = none
  n_max : mg "max" = none
  n_range : mg "range" = none
  n_reversed : mg "reversed" = none
  n_sorted : mg "sorted" = none
  n_tuple : mg "tuple" = none
  c_MOST_PRIME : GlI mg "MOST_PRIME" 97
  x_NoFigures : ∃ C, ExcT K mg "NoFigures" C
  x_NoPlace : ∃ C, ExcT K mg "NoPlace" C
  x_NoPrime : ∃ C, ExcT K mg "NoPrime" C
section
variable {P : Program} {w : World} {K : PySem.W.Frag} {mg : Str → Option Value} {base : Heap}
theorem bd_is_whole (B : Tx K mg) {f : Addr} {cdv : Value} {A : Around} {outer : List PySem.Env} {s : Shared} {H : Hp} {E : XK} (hr : Room 0 (A.deeper (envOfC "is_whole" (defScope st_is_whole) s.heap.objs.size f cdv))) :
    BJ (cxOf (L2N.CX P w) P w K mg base ["thing"] "is_whole" (defScope st_is_whole) f cdv A outer s H E) (fun cls d _ H => E cls d H) false (defBody st_is_whole) D_is_whole :=
  (b_cons (s_ret (e_and (e_isi (n := "int") B.n_isinstance (by rfl) (e_varT (pv 0)) (pe_bltn (by rfl) B.n_int (by decide +kernel) rfl)) (e_one (e_not (e_isi (n := "bool") B.n_isinstance (by rfl) (e_varT (pv 0)) (pe_bltn (by rfl) B.n_bool (by decide +kernel) rfl))))))
b_nil)
theorem ok_is_whole (B : Tx K mg) : Okd P w K mg base "is_whole" ["thing"] 1 1 false F_is_whole := def_ok B.d_is_whole sc_is_whole rfl (fun z => nomatch z) fun f cdv A outer s H E hr => bd_is_whole B hr
theorem bd_is_prime (B : Tx K mg) {f : Addr} {cdv : Value} {A : Around} {outer : List PySem.Env} {s : Shared} {H : Hp} {E : XK} (hr : Room 1 (A.deeper (envOfC "is_prime" (defScope st_is_prime) s.heap.objs.size f cdv))) :
    BJ (cxOf (L2N.CX P w) P w K mg base ["thing", "part"] "is_prime" (defScope st_is_prime) f cdv A outer s H E) (fun cls d _ H => E cls d H) false (defBody st_is_prime) D_is_prime :=
  (b_cons (s_if (t_w (w_or (t_not (t_val (e_callD (ok_is_whole B) hr (by decide) tk_of (by rfl) (a_cons (e_var (pv 0)) a_nil) (ALen.cons ALen.nil)))) (w_or (t_lt (e_varT (pv 0)) (e_s_t e_int)) (w_or1 (t_gt (e_varT (pv 0)) (e_s_t (e_glI B.c_MOST_PRIME (by rfl))))))))
(b_cons (s_ret e_bl)
b_nil)
b_nil)
(b_cons (s_ret (e_all rfl B.n_all (by rfl) (a_cons (e_f_t (e_lc (own := [("part", 1)]) rfl sc_is_prime.nd (i_rng2 B.n_range (by rfl) (a_cons (e_s_t e_int) (a_cons (e_varT (pv 0)) a_nil))) (blkOk_by (own := [("part", 1)]) (N := ["thing", "part"]) (sc := defScope st_is_prime) (by decide +kernel)) (by decide) (fun _ _ _ _ _ => (g_name (pg_name (i := 1) sc_is_prime.nd rfl (Or.inl rfl)))) (fun _ _ _ _ _ => c_nil) (fun _ _ _ _ _ => (e_ne hr.units (e_s_t (e_mod (e_varT (pv 0)) (e_varT (pv 1)))) (e_s_t e_int))))) a_nil)))
b_nil))
theorem ok_is_prime (B : Tx K mg) : Okd P w K mg base "is_prime" ["thing"] 2 1 false F_is_prime := def_ok B.d_is_prime sc_is_prime rfl (fun z => nomatch z) fun f cdv A outer s H E hr => bd_is_prime B hr
theorem bd_power_of (B : Tx K mg) {f : Addr} {cdv : Value} {A : Around} {outer : List PySem.Env} {s : Shared} {H : Hp} {E : XK} (hr : Room 0 (A.deeper (envOfC "power_of" (defScope st_power_of) s.heap.objs.size f cdv))) :
    BJ (cxOf (L2N.CX P w) P w K mg base ["p", "times", "found", "k"] "power_of" (defScope st_power_of) f cdv A outer s H E) (fun cls d _ H => E cls d H) false (defBody st_power_of) D_power_of :=
  (b_cons (s_set (i := 2) sc_power_of.nd rfl (Or.inl rfl) e_int)
(b_cons (s_for hp_of rfl (i_rng1 B.n_range (by rfl) (a_cons (e_varT (pv 1)) a_nil)) (g_name (pg_name (i := 3) sc_power_of.nd rfl (Or.inl rfl)))
(b_cons (s_augMul (i := 2) sc_power_of.nd rfl (Or.inl rfl) (e_varT (pv 0)))
b_nil))
(b_cons (s_ret (e_var (pv 2)))
b_nil)))
theorem ok_power_of (B : Tx K mg) : Okd P w K mg base "power_of" ["p", "times"] 1 2 false F_power_of := def_ok B.d_power_of sc_power_of rfl (fun z => nomatch z) fun f cdv A outer s H E hr => bd_power_of B hr
theorem bd_are_figures (B : Tx K mg) {f : Addr} {cdv : Value} {A : Around} {outer : List PySem.Env} {s : Shared} {H : Hp} {E : XK} (hr : Room 1 (A.deeper (envOfC "are_figures" (defScope st_are_figures) s.heap.objs.size f cdv))) :
    BJ (cxOf (L2N.CX P w) P w K mg base ["p", "figures", "one"] "are_figures" (defScope st_are_figures) f cdv A outer s H E) (fun cls d _ H => E cls d H) false (defBody st_are_figures) D_are_figures :=
  (b_cons (s_if (t_not (t_val (e_isi2 (n := "list") (m := "tuple") B.n_isinstance (by rfl) (e_varT (pv 1)) (pe_bltn (by rfl) B.n_list (by decide +kernel) rfl) (pe_bltn (by rfl) B.n_tuple (by decide +kernel) rfl))))
(b_cons (s_ret e_bl)
b_nil)
b_nil)
(b_cons (s_ret (e_all rfl B.n_all (by rfl) (a_cons (e_f_t (e_lc (own := [("one", 2)]) rfl sc_are_figures.nd (i_seq (e_var (pv 1))) (blkOk_by (own := [("one", 2)]) (N := ["p", "figures", "one"]) (sc := defScope st_are_figures) (by decide +kernel)) (by decide) (fun _ _ _ _ _ => (g_name (pg_name (i := 2) sc_are_figures.nd rfl (Or.inl rfl)))) (fun _ _ _ _ _ => c_nil) (fun _ _ _ _ _ => (e_and (e_callD (ok_is_whole B) hr (by decide) takesN (by rfl) (a_cons (e_var (pv 2)) a_nil) (ALen.cons ALen.nil)) (e_one (e_leLt (e_s_t e_int) (e_varT (pv 2)) (e_varT (pv 0)))))))) a_nil)))
b_nil))
theorem ok_are_figures (B : Tx K mg) : Okd P w K mg base "are_figures" ["p", "figures"] 2 2 false F_are_figures := def_ok B.d_are_figures sc_are_figures rfl (fun z => nomatch z) fun f cdv A outer s H E hr => bd_are_figures B hr
theorem bd_left_number (B : Tx K mg) {f : Addr} {cdv : Value} {A : Around} {outer : List PySem.Env} {s : Shared} {H : Hp} {E : XK} (hr : Room 2 (A.deeper (envOfC "left_number" (defScope st_left_number) s.heap.objs.size f cdv))) :
    BJ (cxOf (L2N.CX P w) P w K mg base ["p", "least", "figures", "noughts"] "left_number" (defScope st_left_number) f cdv A outer s H E) (fun cls d _ H => E cls d H) false (defBody st_left_number) D_left_number :=
  (b_cons (s_if (t_not (t_val (e_callD (ok_is_prime B) hr (by decide) tk_of (by rfl) (a_cons (e_var (pv 0)) a_nil) (ALen.cons ALen.nil))))
(b_cons (s_raise B.x_NoPrime.choose_spec rfl tk_of (by rfl))
b_nil)
b_nil)
(b_cons (s_if (t_not (t_val (e_callD (ok_is_whole B) hr (by decide) tk_of (by rfl) (a_cons (e_var (pv 1)) a_nil) (ALen.cons ALen.nil))))
(b_cons (s_raise B.x_NoPlace.choose_spec rfl tk_of (by rfl))
b_nil)
b_nil)
(b_cons (s_if (t_not (t_val (e_callD (ok_are_figures B) hr (by decide) tk_of (by rfl) (a_cons (e_var (pv 0)) (a_cons (e_var (pv 2)) a_nil)) (ALen.cons (ALen.cons ALen.nil)))))
(b_cons (s_raise B.x_NoFigures.choose_spec rfl tk_of (by rfl))
b_nil)
b_nil)
(b_cons (s_set (i := 3) sc_left_number.nd rfl (Or.inl rfl) e_int)
(b_cons (s_while hp_of (t_w (w_and (t_lt (e_varT (pv 3)) (e_s_t (e_len B.n_len (by rfl) (a_cons (e_varT (pv 2)) a_nil)))) (w_and1 (t_eq hr.units (e_s_t (e_item (e_varT (pv 2)) (e_varT (pv 3)) (fun _ _ => rfl))) (e_s_t e_int)))))
(b_cons (s_augAdd (i := 3) sc_left_number.nd rfl (Or.inl rfl) (e_s_t e_int))
b_nil))
(b_cons (s_ret (e_tup (a_cons (e_var (pv 0)) (a_cons (e_add (e_varT (pv 1)) (e_varT (pv 3))) (a_cons (e_tuple B.n_tuple (by rfl) (a_cons (e_s_t (e_slice (e_varT (pv 2)) (o_some (e_var (pv 3))) o_none)) a_nil)) a_nil)))))
b_nil))))))
theorem ok_left_number (B : Tx K mg) : Okd P w K mg base "left_number" ["p", "least", "figures"] 3 3 false F_left_number := def_ok B.d_left_number sc_left_number rfl (fun z => nomatch z) fun f cdv A outer s H E hr => bd_left_number B hr
theorem bd_known_of (B : Tx K mg) {f : Addr} {cdv : Value} {A : Around} {outer : List PySem.Env} {s : Shared} {H : Hp} {E : XK} (hr : Room 0 (A.deeper (envOfC "known_of" (defScope st_known_of) s.heap.objs.size f cdv))) :
    BJ (cxOf (L2N.CX P w) P w K mg base ["one"] "known_of" (defScope st_known_of) f cdv A outer s H E) (fun cls d _ H => E cls d H) false (defBody st_known_of) D_known_of :=
  (b_cons (s_ret (e_len B.n_len (by rfl) (a_cons (e_s_t (e_item (e_varT (pv 0)) (e_s_t e_int) (fun _ _ => rfl))) a_nil)))
b_nil)
theorem ok_known_of (B : Tx K mg) : Okd P w K mg base "known_of" ["one"] 1 1 false F_known_of := def_ok B.d_known_of sc_known_of rfl (fun z => nomatch z) fun f cdv A outer s H E hr => bd_known_of B hr
theorem bd_unit_of (B : Tx K mg) {f : Addr} {cdv : Value} {A : Around} {outer : List PySem.Env} {s : Shared} {H : Hp} {E : XK} (hr : Room 0 (A.deeper (envOfC "unit_of" (defScope st_unit_of) s.heap.objs.size f cdv))) :
    BJ (cxOf (L2N.CX P w) P w K mg base ["one", "found", "digit"] "unit_of" (defScope st_unit_of) f cdv A outer s H E) (fun cls d _ H => E cls d H) false (defBody st_unit_of) D_unit_of :=
  (b_cons (s_set (i := 1) sc_unit_of.nd rfl (Or.inl rfl) e_int)
(b_cons (s_for hp_of rfl (i_rev B.n_reversed (by rfl) (e_item (e_varT (pv 0)) (e_s_t e_int) (fun _ _ => rfl))) (g_name (pg_name (i := 2) sc_unit_of.nd rfl (Or.inl rfl)))
(b_cons (s_set (i := 1) sc_unit_of.nd rfl (Or.inl rfl) (e_add (e_s_t (e_mul (e_varT (pv 1)) (e_s_t (e_item (e_varT (pv 0)) (e_s_t e_int) (fun _ _ => rfl))))) (e_varT (pv 2))))
b_nil))
(b_cons (s_ret (e_var (pv 1)))
b_nil)))
theorem ok_unit_of (B : Tx K mg) : Okd P w K mg base "unit_of" ["one"] 1 1 false F_unit_of := def_ok B.d_unit_of sc_unit_of rfl (fun z => nomatch z) fun f cdv A outer s H E hr => bd_unit_of B hr
theorem bd_of_whole (B : Tx K mg) {f : Addr} {cdv : Value} {A : Around} {outer : List PySem.Env} {s : Shared} {H : Hp} {E : XK} (hr : Room 3 (A.deeper (envOfC "of_whole" (defScope st_of_whole) s.heap.objs.size f cdv))) :
    BJ (cxOf (L2N.CX P w) P w K mg base ["p", "least", "number", "many", "figures", "k", "digit"] "of_whole" (defScope st_of_whole) f cdv A outer s H E) (fun cls d _ H => E cls d H) false (defBody st_of_whole) D_of_whole :=
  (b_cons (s_setO (i := 4) sc_of_whole.nd rfl (Or.inl rfl) (e_lst a_nil))
(b_cons (s_for hp_of rfl (i_rng1 B.n_range (by rfl) (a_cons (e_varT (pv 3)) a_nil)) (g_name (pg_name (i := 5) sc_of_whole.nd rfl (Or.inl rfl)))
(b_cons (s_to (e_divmod B.n_divmod (by rfl) (a_cons (e_varT (pv 2)) (a_cons (e_varT (pv 0)) a_nil))) (g_tup rfl (gs_cons (g_name (pg_name (i := 2) sc_of_whole.nd rfl (Or.inl rfl))) (gs_cons (g_name (pg_name (i := 6) sc_of_whole.nd rfl (Or.inl rfl))) gs_nil)) (gs_len (gs_len gs_len0))))
(b_cons (s_app (i := 4) (pv 4) (e_var (pv 6)))
b_nil)))
(s_frz (i := 4) (b_cons (s_ret (e_callD (ok_left_number B) hr (by decide) tk_of (by rfl) (a_cons (e_var (pv 0)) (a_cons (e_var (pv 1)) (a_cons (e_var (pv 4)) a_nil))) (ALen.cons (ALen.cons (ALen.cons ALen.nil)))))
b_nil))))
theorem ok_of_whole (B : Tx K mg) : Okd P w K mg base "of_whole" ["p", "least", "number", "many"] 4 4 false F_of_whole := def_ok B.d_of_whole sc_of_whole rfl (fun z => nomatch z) fun f cdv A outer s H E hr => bd_of_whole B hr
theorem bd_undone (B : Tx K mg) {f : Addr} {cdv : Value} {A : Around} {outer : List PySem.Env} {s : Shared} {H : Hp} {E : XK} (hr : Room 0 (A.deeper (envOfC "undone" (defScope st_undone) s.heap.objs.size f cdv))) :
    BJ (cxOf (L2N.CX P w) P w K mg base ["p", "number", "digit"] "undone" (defScope st_undone) f cdv A outer s H E) (fun cls d _ H => E cls d H) false (defBody st_undone) D_undone :=
  (b_cons (s_for hp_of rfl (i_rng2 B.n_range (by rfl) (a_cons (e_s_t e_int) (a_cons (e_varT (pv 0)) a_nil))) (g_name (pg_name (i := 2) sc_undone.nd rfl (Or.inl rfl)))
(b_cons (s_if (t_eq hr.units (e_s_t (e_mod (e_s_t (e_mul (e_varT (pv 2)) (e_varT (pv 1)))) (e_varT (pv 0)))) (e_s_t e_int))
(b_cons (s_ret (e_var (pv 2)))
b_nil)
b_nil)
b_nil))
(b_cons (s_ret e_int)
b_nil))
theorem ok_undone (B : Tx K mg) : Okd P w K mg base "undone" ["p", "number"] 1 2 false F_undone := def_ok B.d_undone sc_undone rfl (fun z => nomatch z) fun f cdv A outer s H E hr => bd_undone B hr
theorem bd_odd_roots (B : Tx K mg) {f : Addr} {cdv : Value} {A : Around} {outer : List PySem.Env} {s : Shared} {H : Hp} {E : XK} (hr : Room 4 (A.deeper (envOfC "odd_roots" (defScope st_odd_roots) s.heap.objs.size f cdv))) :
    BJ (cxOf (L2N.CX P w) P w K mg base ["one", "first", "p", "least", "many", "unit", "turn", "root", "by", "k", "number"] "odd_roots" (defScope st_odd_roots) f cdv A outer s H E) (fun cls d _ H => E cls d H) true (defBody st_odd_roots) D_odd_roots :=
  (b_cons (s_set (i := 2) sc_odd_roots.nd rfl (Or.inr rfl) (e_item (e_varT (pv 0)) (e_s_t e_int) (fun _ _ => rfl)))
(b_cons (s_set (i := 3) sc_odd_roots.nd rfl (Or.inr rfl) (e_fdiv (e_s_t (e_item (e_varT (pv 0)) (e_s_t e_int) (fun _ _ => rfl))) (e_s_t e_int)))
(b_cons (s_set (i := 4) sc_odd_roots.nd rfl (Or.inr rfl) (e_callD (ok_known_of B) hr (by decide) tk_of (by rfl) (a_cons (e_var (pv 0)) a_nil) (ALen.cons ALen.nil)))
(b_cons (s_set (i := 5) sc_odd_roots.nd rfl (Or.inl rfl) (e_callD (ok_unit_of B) hr (by decide) tk_of (by rfl) (a_cons (e_var (pv 0)) a_nil) (ALen.cons ALen.nil)))
(b_cons (s_set (i := 6) sc_odd_roots.nd rfl (Or.inl rfl) (e_callD (ok_undone B) hr (by decide) tk_of (by rfl) (a_cons (e_var (pv 2)) (a_cons (e_mul (e_s_t e_int) (e_varT (pv 1))) a_nil)) (ALen.cons (ALen.cons ALen.nil))))
(b_cons (s_set (i := 7) sc_odd_roots.nd rfl (Or.inl rfl) (e_var (pv 1)))
(b_cons (s_set (i := 8) sc_odd_roots.nd rfl (Or.inl rfl) (e_var (pv 2)))
(b_cons (s_for hp_of rfl (i_rng2 B.n_range (by rfl) (a_cons (e_s_t e_int) (a_cons (e_varT (pv 4)) a_nil))) (g_name (pg_name (i := 9) sc_odd_roots.nd rfl (Or.inl rfl)))
(b_cons (s_augAdd (i := 7) sc_odd_roots.nd rfl (Or.inl rfl) (e_s_t (e_mul (e_s_t (e_mod (e_s_t (e_mul (e_s_t (e_fdiv (e_s_t (e_sub (e_varT (pv 5)) (e_s_t (e_mul (e_varT (pv 7)) (e_varT (pv 7)))))) (e_varT (pv 8)))) (e_varT (pv 6)))) (e_varT (pv 2)))) (e_varT (pv 8)))))
(b_cons (s_augMul (i := 8) sc_odd_roots.nd rfl (Or.inl rfl) (e_varT (pv 2)))
b_nil)))
(b_cons (s_retF (e_sort1 hr.units B.n_sorted (by rfl) (a_cons (e_f_t (e_lc (own := [("number", 10)]) rfl sc_odd_roots.nd (i_seq (e_tup (a_cons (e_var (pv 7)) (a_cons (e_sub (e_varT (pv 8)) (e_varT (pv 7))) a_nil)))) (blkOk_by (own := [("number", 10)]) (N := ["one", "first", "p", "least", "many", "unit", "turn", "root", "by", "k", "number"]) (sc := defScope st_odd_roots) (by decide +kernel)) (by decide) (fun _ _ _ _ _ => (g_name (pg_name (i := 10) sc_odd_roots.nd rfl (Or.inl rfl)))) (fun _ _ _ _ _ => c_nil) (fun _ _ _ _ _ => (e_callD (ok_of_whole B) hr (by decide) takesN (by rfl) (a_cons (e_var (pv 2)) (a_cons (e_var (pv 3)) (a_cons (e_var (pv 10)) (a_cons (e_var (pv 4)) a_nil)))) (ALen.cons (ALen.cons (ALen.cons (ALen.cons ALen.nil)))))))) a_nil)))
b_nil)))))))))
theorem ok_odd_roots (B : Tx K mg) : Okd P w K mg base "odd_roots" ["one", "first"] 5 2 true F_odd_roots := def_ok B.d_odd_roots sc_odd_roots rfl (fun _ => (nn_seqR (nn_seqR (nn_seqR (nn_seqR (nn_seqR (nn_seqR (nn_seqR (nn_seqR (nn_seqL (nn_ret _))))))))))) fun f cdv A outer s H E hr => bd_odd_roots B hr
theorem bd_even_roots (B : Tx K mg) {f : Addr} {cdv : Value} {A : Around} {outer : List PySem.Env} {s : Shared} {H : Hp} {E : XK} (hr : Room 4 (A.deeper (envOfC "even_roots" (defScope st_even_roots) s.heap.objs.size f cdv))) :
    BJ (cxOf (L2N.CX P w) P w K mg base ["one", "least", "figures", "unit", "root", "k", "many", "number"] "even_roots" (defScope st_even_roots) f cdv A outer s H E) (fun cls d _ H => E cls d H) true (defBody st_even_roots) D_even_roots :=
  (b_cons (s_set (i := 1) sc_even_roots.nd rfl (Or.inr rfl) (e_fdiv (e_s_t (e_item (e_varT (pv 0)) (e_s_t e_int) (fun _ _ => rfl))) (e_s_t e_int)))
(b_cons (s_set (i := 2) sc_even_roots.nd rfl (Or.inl rfl) (e_item (e_varT (pv 0)) (e_s_t e_int) (fun _ _ => rfl)))
(b_cons (s_if (t_ne hr.units (e_s_t (e_slice (e_varT (pv 2)) (o_some e_int) (o_some e_int))) (e_s_t (e_slice (e_s_t (e_tup (a_cons e_int (a_cons e_int a_nil)))) o_none (o_some (e_sub (e_s_t (e_len B.n_len (by rfl) (a_cons (e_varT (pv 2)) a_nil))) (e_s_t e_int))))))
(b_cons (s_retF (e_lst a_nil))
b_nil)
b_nil)
(b_cons (s_if (t_lt (e_s_t (e_len B.n_len (by rfl) (a_cons (e_varT (pv 2)) a_nil))) (e_s_t e_int))
(b_cons (s_retF (e_lst (a_cons (e_callD (ok_left_number B) hr (by decide) tk_of (by rfl) (a_cons e_int (a_cons (e_var (pv 1)) (a_cons (e_tup (a_cons e_int a_nil)) a_nil))) (ALen.cons (ALen.cons (ALen.cons ALen.nil)))) a_nil)))
b_nil)
b_nil)
(b_cons (s_set (i := 3) sc_even_roots.nd rfl (Or.inl rfl) (e_callD (ok_unit_of B) hr (by decide) tk_of (by rfl) (a_cons (e_var (pv 0)) a_nil) (ALen.cons ALen.nil)))
(b_cons (s_set (i := 4) sc_even_roots.nd rfl (Or.inl rfl) e_int)
(b_cons (s_for hp_of rfl (i_rng2 B.n_range (by rfl) (a_cons (e_s_t e_int) (a_cons (e_s_t (e_len B.n_len (by rfl) (a_cons (e_varT (pv 2)) a_nil))) a_nil))) (g_name (pg_name (i := 5) sc_even_roots.nd rfl (Or.inl rfl)))
(b_cons (s_if (t_ne hr.units (e_s_t (e_mod (e_s_t (e_sub (e_s_t (e_mul (e_varT (pv 4)) (e_varT (pv 4)))) (e_varT (pv 3)))) (e_s_t (e_callD (ok_power_of B) hr (by decide) tk_of (by rfl) (a_cons e_int (a_cons (e_add (e_varT (pv 5)) (e_s_t e_int)) a_nil)) (ALen.cons (ALen.cons ALen.nil)))))) (e_s_t e_int))
(b_cons (s_augAdd (i := 4) sc_even_roots.nd rfl (Or.inl rfl) (e_s_t (e_callD (ok_power_of B) hr (by decide) tk_of (by rfl) (a_cons e_int (a_cons (e_sub (e_varT (pv 5)) (e_s_t e_int)) a_nil)) (ALen.cons (ALen.cons ALen.nil)))))
b_nil)
b_nil)
b_nil))
(b_cons (s_set (i := 6) sc_even_roots.nd rfl (Or.inr rfl) (e_sub (e_s_t (e_len B.n_len (by rfl) (a_cons (e_varT (pv 2)) a_nil))) (e_s_t e_int)))
(b_cons (s_retF (e_sort1 hr.units B.n_sorted (by rfl) (a_cons (e_f_t (e_lc (own := [("number", 7)]) rfl sc_even_roots.nd (i_seq (e_tup (a_cons (e_var (pv 4)) (a_cons (e_sub (e_s_t (e_callD (ok_power_of B) hr (by decide) tk_of (by rfl) (a_cons e_int (a_cons (e_var (pv 6)) a_nil)) (ALen.cons (ALen.cons ALen.nil)))) (e_varT (pv 4))) a_nil)))) (blkOk_by (own := [("number", 7)]) (N := ["one", "least", "figures", "unit", "root", "k", "many", "number"]) (sc := defScope st_even_roots) (by decide +kernel)) (by decide) (fun _ _ _ _ _ => (g_name (pg_name (i := 7) sc_even_roots.nd rfl (Or.inl rfl)))) (fun _ _ _ _ _ => c_nil) (fun _ _ _ _ _ => (e_callD (ok_of_whole B) hr (by decide) takesN (by rfl) (a_cons e_int (a_cons (e_var (pv 1)) (a_cons (e_var (pv 7)) (a_cons (e_var (pv 6)) a_nil)))) (ALen.cons (ALen.cons (ALen.cons (ALen.cons ALen.nil)))))))) a_nil)))
b_nil)))))))))
theorem ok_even_roots (B : Tx K mg) : Okd P w K mg base "even_roots" ["one"] 5 1 true F_even_roots := def_ok B.d_even_roots sc_even_roots rfl (fun _ => (nn_seqR (nn_seqR (nn_seqR (nn_seqR (nn_seqR (nn_seqR (nn_seqR (nn_seqR (nn_seqL (nn_ret _))))))))))) fun f cdv A outer s H E hr => bd_even_roots B hr
theorem bd_square_roots (B : Tx K mg) {f : Addr} {cdv : Value} {A : Around} {outer : List PySem.Env} {s : Shared} {H : Hp} {E : XK} (hr : Room 5 (A.deeper (envOfC "square_roots" (defScope st_square_roots) s.heap.objs.size f cdv))) :
    BJ (cxOf (L2N.CX P w) P w K mg base ["one", "p", "least", "figures", "digit"] "square_roots" (defScope st_square_roots) f cdv A outer s H E) (fun cls d _ H => E cls d H) true (defBody st_square_roots) D_square_roots :=
  (b_cons (s_to (e_var (pv 0)) (g_tup rfl (gs_cons (g_name (pg_name (i := 1) sc_square_roots.nd rfl (Or.inl rfl))) (gs_cons (g_name (pg_name (i := 2) sc_square_roots.nd rfl (Or.inl rfl))) (gs_cons (g_name (pg_name (i := 3) sc_square_roots.nd rfl (Or.inl rfl))) gs_nil))) (gs_len (gs_len (gs_len gs_len0)))))
(b_cons (s_if (t_eq hr.units (e_varT (pv 3)) (e_s_t (e_tup a_nil)))
(b_cons (s_retF (e_lst (a_cons (e_callD (ok_left_number B) hr (by decide) tk_of (by rfl) (a_cons (e_var (pv 1)) (a_cons (e_neg (e_s_t (e_fdiv (e_s_t (e_neg (e_varT (pv 2)))) (e_s_t e_int)))) (a_cons (e_tup a_nil) a_nil))) (ALen.cons (ALen.cons (ALen.cons ALen.nil)))) a_nil)))
b_nil)
b_nil)
(b_cons (s_if (t_ne hr.units (e_s_t (e_mod (e_varT (pv 2)) (e_s_t e_int))) (e_s_t e_int))
(b_cons (s_retF (e_lst a_nil))
b_nil)
b_nil)
(b_cons (s_if (t_eq hr.units (e_varT (pv 1)) (e_s_t e_int))
(b_cons (s_retF (e_callD (ok_even_roots B) hr (by decide) tk_of (by rfl) (a_cons (e_var (pv 0)) a_nil) (ALen.cons ALen.nil)))
b_nil)
b_nil)
(b_cons (s_for hp_of rfl (i_rng2 B.n_range (by rfl) (a_cons (e_s_t e_int) (a_cons (e_varT (pv 1)) a_nil))) (g_name (pg_name (i := 4) sc_square_roots.nd rfl (Or.inl rfl)))
(b_cons (s_if (t_eq hr.units (e_s_t (e_mod (e_s_t (e_mul (e_varT (pv 4)) (e_varT (pv 4)))) (e_varT (pv 1)))) (e_s_t (e_item (e_varT (pv 3)) (e_s_t e_int) (fun _ _ => rfl))))
(b_cons (s_retF (e_callD (ok_odd_roots B) hr (by decide) tk_of (by rfl) (a_cons (e_var (pv 0)) (a_cons (e_var (pv 4)) a_nil)) (ALen.cons (ALen.cons ALen.nil))))
b_nil)
b_nil)
b_nil))
(b_cons (s_retF (e_lst a_nil))
b_nil))))))
theorem ok_square_roots (B : Tx K mg) : Okd P w K mg base "square_roots" ["one"] 6 1 true F_square_roots := def_ok B.d_square_roots sc_square_roots rfl (fun _ => (nn_seqR (nn_seqR (nn_seqR (nn_seqR (nn_seqR (nn_seqL (nn_ret _)))))))) fun f cdv A outer s H E hr => bd_square_roots B hr
theorem bd__law_cell_at (B : Tx K mg) {f : Addr} {cdv : Value} {A : Around} {outer : List PySem.Env} {s : Shared} {H : Hp} {E : XK} (hr : Room 0 (A.deeper (envOfC "_law_cell_at" (defScope st__law_cell_at) s.heap.objs.size f cdv))) :
    BJ (cxOf (L2N.CX P w) P w K mg base ["_law_script", "_law_k"] "_law_cell_at" (defScope st__law_cell_at) f cdv A outer s H E) (fun cls d _ H => E cls d H) false (defBody st__law_cell_at) D__law_cell_at :=
  (b_cons (s_if (t_lt (e_varT (pv 1)) (e_s_t (e_len B.n_len (by rfl) (a_cons (e_varT (pv 0)) a_nil))))
(b_cons (s_ret (e_item (e_varT (pv 0)) (e_varT (pv 1)) (fun _ _ => rfl)))
b_nil)
b_nil)
(b_cons (s_ret e_int)
b_nil))
theorem ok__law_cell_at (B : Tx K mg) : Okd P w K mg base "_law_cell_at" ["_law_script", "_law_k"] 1 2 false F__law_cell_at := def_ok B.d__law_cell_at sc__law_cell_at rfl (fun z => nomatch z) fun f cdv A outer s H E hr => bd__law_cell_at B hr
theorem bd__law_whole (B : Tx K mg) {f : Addr} {cdv : Value} {A : Around} {outer : List PySem.Env} {s : Shared} {H : Hp} {E : XK} (hr : Room 0 (A.deeper (envOfC "_law_whole" (defScope st__law_whole) s.heap.objs.size f cdv))) :
    BJ (cxOf (L2N.CX P w) P w K mg base ["_law_found"] "_law_whole" (defScope st__law_whole) f cdv A outer s H E) (fun cls d _ H => E cls d H) false (defBody st__law_whole) D__law_whole :=
  (b_cons (s_ret (e_and (e_isi (n := "int") B.n_isinstance (by rfl) (e_varT (pv 0)) (pe_bltn (by rfl) B.n_int (by decide +kernel) rfl)) (e_one (e_not (e_isi (n := "bool") B.n_isinstance (by rfl) (e_varT (pv 0)) (pe_bltn (by rfl) B.n_bool (by decide +kernel) rfl))))))
b_nil)
theorem ok__law_whole (B : Tx K mg) : Okd P w K mg base "_law_whole" ["_law_found"] 1 1 false F__law_whole := def_ok B.d__law_whole sc__law_whole rfl (fun z => nomatch z) fun f cdv A outer s H E hr => bd__law_whole B hr
theorem bd__law_prime (B : Tx K mg) {f : Addr} {cdv : Value} {A : Around} {outer : List PySem.Env} {s : Shared} {H : Hp} {E : XK} (hr : Room 0 (A.deeper (envOfC "_law_prime" (defScope st__law_prime) s.heap.objs.size f cdv))) :
    BJ (cxOf (L2N.CX P w) P w K mg base ["_law_cell", "_law_some"] "_law_prime" (defScope st__law_prime) f cdv A outer s H E) (fun cls d _ H => E cls d H) false (defBody st__law_prime) D__law_prime :=
  (b_cons (s_set (i := 1) sc__law_prime.nd rfl (Or.inl rfl) (e_f_s (e_lst (a_cons e_int (a_cons e_int (a_cons e_int (a_cons e_int (a_cons e_int (a_cons e_int (a_cons e_int (a_cons e_int (a_cons e_int (a_cons e_int (a_cons e_int (a_cons e_int (a_cons e_int (a_cons e_int (a_cons e_int (a_cons e_int (a_cons e_int (a_cons e_int (a_cons e_int (a_cons e_int (a_cons e_int (a_cons e_int (a_cons e_int (a_cons e_int (a_cons e_int (a_cons e_int (a_cons e_int (a_cons e_int a_nil)))))))))))))))))))))))))))))))
(b_cons (s_ret (e_item (e_varT (pv 1)) (e_s_t (e_mod (e_varT (pv 0)) (e_s_t (e_len B.n_len (by rfl) (a_cons (e_varT (pv 1)) a_nil))))) (fun _ _ => rfl)))
b_nil))
theorem ok__law_prime (B : Tx K mg) : Okd P w K mg base "_law_prime" ["_law_cell"] 1 1 false F__law_prime := def_ok B.d__law_prime sc__law_prime rfl (fun z => nomatch z) fun f cdv A outer s H E hr => bd__law_prime B hr
theorem bd__law_power (B : Tx K mg) {f : Addr} {cdv : Value} {A : Around} {outer : List PySem.Env} {s : Shared} {H : Hp} {E : XK} (hr : Room 0 (A.deeper (envOfC "_law_power" (defScope st__law_power) s.heap.objs.size f cdv))) :
    BJ (cxOf (L2N.CX P w) P w K mg base ["_law_p", "_law_times", "_law_found", "_law_k"] "_law_power" (defScope st__law_power) f cdv A outer s H E) (fun cls d _ H => E cls d H) false (defBody st__law_power) D__law_power :=
  (b_cons (s_set (i := 2) sc__law_power.nd rfl (Or.inl rfl) e_int)
(b_cons (s_for hp_of rfl (i_rng1 B.n_range (by rfl) (a_cons (e_varT (pv 1)) a_nil)) (g_name (pg_name (i := 3) sc__law_power.nd rfl (Or.inl rfl)))
(b_cons (s_set (i := 2) sc__law_power.nd rfl (Or.inl rfl) (e_mul (e_varT (pv 2)) (e_varT (pv 0))))
b_nil))
(b_cons (s_ret (e_var (pv 2)))
b_nil)))
theorem ok__law_power (B : Tx K mg) : Okd P w K mg base "_law_power" ["_law_p", "_law_times"] 1 2 false F__law_power := def_ok B.d__law_power sc__law_power rfl (fun z => nomatch z) fun f cdv A outer s H E hr => bd__law_power B hr
theorem bd__law_is_left (B : Tx K mg) {f : Addr} {cdv : Value} {A : Around} {outer : List PySem.Env} {s : Shared} {H : Hp} {E : XK} (hr : Room 1 (A.deeper (envOfC "_law_is_left" (defScope st__law_is_left) s.heap.objs.size f cdv))) :
    BJ (cxOf (L2N.CX P w) P w K mg base ["_law_found", "_law_p", "_law_digit"] "_law_is_left" (defScope st__law_is_left) f cdv A outer s H E) (fun cls d _ H => E cls d H) false (defBody st__law_is_left) D__law_is_left :=
  (b_cons (s_if (t_w (w_or (t_not (t_val (e_isi (n := "tuple") B.n_isinstance (by rfl) (e_varT (pv 0)) (pe_bltn (by rfl) B.n_tuple (by decide +kernel) rfl)))) (w_or (t_ne hr.units (e_s_t (e_len B.n_len (by rfl) (a_cons (e_varT (pv 0)) a_nil))) (e_s_t e_int)) (w_or (t_not (t_val (e_callD (ok__law_whole B) hr (by decide) tk_of (by rfl) (a_cons (e_item (e_varT (pv 0)) (e_s_t e_int) (fun _ _ => rfl)) a_nil) (ALen.cons ALen.nil)))) (w_or1 (t_ne hr.units (e_s_t (e_item (e_varT (pv 0)) (e_s_t e_int) (fun _ _ => rfl))) (e_varT (pv 1))))))))
(b_cons (s_ret e_bl)
b_nil)
b_nil)
(b_cons (s_if (t_w (w_or (t_not (t_val (e_callD (ok__law_whole B) hr (by decide) tk_of (by rfl) (a_cons (e_item (e_varT (pv 0)) (e_s_t e_int) (fun _ _ => rfl)) a_nil) (ALen.cons ALen.nil)))) (w_or (t_not (t_val (e_isi (n := "tuple") B.n_isinstance (by rfl) (e_s_t (e_item (e_varT (pv 0)) (e_s_t e_int) (fun _ _ => rfl))) (pe_bltn (by rfl) B.n_tuple (by decide +kernel) rfl)))) (w_or1 (t_w (w_and (t_ne hr.units (e_s_t (e_item (e_varT (pv 0)) (e_s_t e_int) (fun _ _ => rfl))) (e_s_t (e_tup a_nil))) (w_and1 (t_eq hr.units (e_s_t (e_item (e_s_t (e_item (e_varT (pv 0)) (e_s_t e_int) (fun _ _ => rfl))) (e_s_t e_int) (fun _ _ => rfl))) (e_s_t e_int)))))))))
(b_cons (s_ret e_bl)
b_nil)
b_nil)
(b_cons (s_ret (e_all rfl B.n_all (by rfl) (a_cons (e_f_t (e_lc (own := [("_law_digit", 2)]) rfl sc__law_is_left.nd (i_seq (e_item (e_varT (pv 0)) (e_s_t e_int) (fun _ _ => rfl))) (blkOk_by (own := [("_law_digit", 2)]) (N := ["_law_found", "_law_p", "_law_digit"]) (sc := defScope st__law_is_left) (by decide +kernel)) (by decide) (fun _ _ _ _ _ => (g_name (pg_name (i := 2) sc__law_is_left.nd rfl (Or.inl rfl)))) (fun _ _ _ _ _ => c_nil) (fun _ _ _ _ _ => (e_and (e_callD (ok__law_whole B) hr (by decide) takesN (by rfl) (a_cons (e_var (pv 2)) a_nil) (ALen.cons ALen.nil)) (e_one (e_leLt (e_s_t e_int) (e_varT (pv 2)) (e_varT (pv 1)))))))) a_nil)))
b_nil)))
theorem ok__law_is_left (B : Tx K mg) : Okd P w K mg base "_law_is_left" ["_law_found", "_law_p"] 2 2 false F__law_is_left := def_ok B.d__law_is_left sc__law_is_left rfl (fun z => nomatch z) fun f cdv A outer s H E hr => bd__law_is_left B hr
theorem bd__law_unit (B : Tx K mg) {f : Addr} {cdv : Value} {A : Around} {outer : List PySem.Env} {s : Shared} {H : Hp} {E : XK} (hr : Room 0 (A.deeper (envOfC "_law_unit" (defScope st__law_unit) s.heap.objs.size f cdv))) :
    BJ (cxOf (L2N.CX P w) P w K mg base ["_law_one", "_law_found", "_law_digit"] "_law_unit" (defScope st__law_unit) f cdv A outer s H E) (fun cls d _ H => E cls d H) false (defBody st__law_unit) D__law_unit :=
  (b_cons (s_set (i := 1) sc__law_unit.nd rfl (Or.inl rfl) e_int)
(b_cons (s_for hp_of rfl (i_rev B.n_reversed (by rfl) (e_item (e_varT (pv 0)) (e_s_t e_int) (fun _ _ => rfl))) (g_name (pg_name (i := 2) sc__law_unit.nd rfl (Or.inl rfl)))
(b_cons (s_set (i := 1) sc__law_unit.nd rfl (Or.inl rfl) (e_add (e_s_t (e_mul (e_varT (pv 1)) (e_s_t (e_item (e_varT (pv 0)) (e_s_t e_int) (fun _ _ => rfl))))) (e_varT (pv 2))))
b_nil))
(b_cons (s_ret (e_var (pv 1)))
b_nil)))
theorem ok__law_unit (B : Tx K mg) : Okd P w K mg base "_law_unit" ["_law_one"] 1 1 false F__law_unit := def_ok B.d__law_unit sc__law_unit rfl (fun z => nomatch z) fun f cdv A outer s H E hr => bd__law_unit B hr
theorem bd__law_of_whole (B : Tx K mg) {f : Addr} {cdv : Value} {A : Around} {outer : List PySem.Env} {s : Shared} {H : Hp} {E : XK} (hr : Room 0 (A.deeper (envOfC "_law_of_whole" (defScope st__law_of_whole) s.heap.objs.size f cdv))) :
    BJ (cxOf (L2N.CX P w) P w K mg base ["_law_p", "_law_least", "_law_number", "_law_many", "_law_figures", "_law_k"] "_law_of_whole" (defScope st__law_of_whole) f cdv A outer s H E) (fun cls d _ H => E cls d H) false (defBody st__law_of_whole) D__law_of_whole :=
  (b_cons (s_setO (i := 4) sc__law_of_whole.nd rfl (Or.inl rfl) (e_lst a_nil))
(b_cons (s_for hp_of rfl (i_rng1 B.n_range (by rfl) (a_cons (e_varT (pv 3)) a_nil)) (g_name (pg_name (i := 5) sc__law_of_whole.nd rfl (Or.inl rfl)))
(b_cons (s_app (i := 4) (pv 4) (e_mod (e_varT (pv 2)) (e_varT (pv 0))))
(b_cons (s_set (i := 2) sc__law_of_whole.nd rfl (Or.inl rfl) (e_fdiv (e_varT (pv 2)) (e_varT (pv 0))))
b_nil)))
(b_cons (s_while hp_of (t_w (w_and (t_ne hr.units (e_varT (pv 4)) (e_f_t (e_lst a_nil))) (w_and1 (t_eq hr.units (e_s_t (e_item (e_varT (pv 4)) (e_s_t e_int) (fun _ _ => rfl))) (e_s_t e_int)))))
(b_cons (s_setO (i := 4) sc__law_of_whole.nd rfl (Or.inl rfl) (e_sliceL (e_varT (pv 4)) (o_some e_int) o_none))
(b_cons (s_set (i := 1) sc__law_of_whole.nd rfl (Or.inl rfl) (e_add (e_varT (pv 1)) (e_s_t e_int)))
b_nil)))
(b_cons (s_ret (e_tup (a_cons (e_var (pv 0)) (a_cons (e_var (pv 1)) (a_cons (e_tuple B.n_tuple (by rfl) (a_cons (e_varT (pv 4)) a_nil)) a_nil)))))
b_nil))))
theorem ok__law_of_whole (B : Tx K mg) : Okd P w K mg base "_law_of_whole" ["_law_p", "_law_least", "_law_number", "_law_many"] 1 4 false F__law_of_whole := def_ok B.d__law_of_whole sc__law_of_whole rfl (fun z => nomatch z) fun f cdv A outer s H E hr => bd__law_of_whole B hr
theorem bd__law_filled (B : Tx K mg) {f : Addr} {cdv : Value} {A : Around} {outer : List PySem.Env} {s : Shared} {H : Hp} {E : XK} (hr : Room 0 (A.deeper (envOfC "_law_filled" (defScope st__law_filled) s.heap.objs.size f cdv))) :
    BJ (cxOf (L2N.CX P w) P w K mg base ["_law_number", "_law_p", "_law_more", "_law_top_here"] "_law_filled" (defScope st__law_filled) f cdv A outer s H E) (fun cls d _ H => E cls d H) false (defBody st__law_filled) D__law_filled :=
  (b_cons (s_set (i := 3) sc__law_filled.nd rfl (Or.inl rfl) e_int)
(b_cons (s_while hp_of (t_le (e_varT (pv 3)) (e_varT (pv 0)))
(b_cons (s_set (i := 3) sc__law_filled.nd rfl (Or.inl rfl) (e_mul (e_varT (pv 3)) (e_varT (pv 1))))
b_nil))
(b_cons (s_ret (e_add (e_varT (pv 0)) (e_s_t (e_mul (e_varT (pv 3)) (e_varT (pv 2))))))
b_nil)))
theorem ok__law_filled (B : Tx K mg) : Okd P w K mg base "_law_filled" ["_law_number", "_law_p", "_law_more"] 1 3 false F__law_filled := def_ok B.d__law_filled sc__law_filled rfl (fun z => nomatch z) fun f cdv A outer s H E hr => bd__law_filled B hr
theorem bd__law_left_by (B : Tx K mg) {f : Addr} {cdv : Value} {A : Around} {outer : List PySem.Env} {s : Shared} {H : Hp} {E : XK} (hr : Room 1 (A.deeper (envOfC "_law_left_by" (defScope st__law_left_by) s.heap.objs.size f cdv))) :
    BJ (cxOf (L2N.CX P w) P w K mg base ["_law_p", "_law_a", "_law_b", "_law_c", "_law_plain", "_law_many", "_law_least", "_law_number"] "_law_left_by" (defScope st__law_left_by) f cdv A outer s H E) (fun cls d _ H => E cls d H) false (defBody st__law_left_by) D__law_left_by :=
  (b_cons (s_set (i := 5) sc__law_left_by.nd rfl (Or.inl rfl) (e_mod (e_varT (pv 1)) (e_s_t e_int)))
(b_cons (s_set (i := 6) sc__law_left_by.nd rfl (Or.inl rfl) (e_sub (e_s_t (e_mod (e_varT (pv 3)) (e_s_t e_int))) (e_s_t e_int)))
(b_cons (s_set (i := 7) sc__law_left_by.nd rfl (Or.inl rfl) (e_add (e_s_t (e_mod (e_s_t (e_abs B.n_abs (by rfl) (a_cons (e_s_t (e_mul (e_varT (pv 2)) (e_s_t (e_pow (e_s_t e_int) (e_s_t e_int))))) a_nil))) (e_s_t (e_pow (e_s_t e_int) (e_s_t e_int))))) (e_s_t (e_mul (e_s_t (e_fdiv (e_s_t (e_callD (ok__law_power B) hr (by decide) tk_of (by rfl) (a_cons (e_var (pv 0)) (a_cons (e_var (pv 5)) a_nil)) (ALen.cons (ALen.cons ALen.nil)))) (e_s_t e_int))) (e_s_t (e_mod (e_varT (pv 2)) (e_s_t e_int)))))))
(b_cons (s_if (t_val (e_var (pv 4)))
(b_cons (s_set (i := 7) sc__law_left_by.nd rfl (Or.inl rfl) (e_callD (ok__law_filled B) hr (by decide) tk_of (by rfl) (a_cons (e_fdiv (e_s_t (e_abs B.n_abs (by rfl) (a_cons (e_varT (pv 2)) a_nil))) (e_s_t e_int)) (a_cons (e_var (pv 0)) (a_cons (e_var (pv 7)) a_nil))) (ALen.cons (ALen.cons (ALen.cons ALen.nil)))))
b_nil)
b_nil)
(b_cons (s_if (t_eq hr.units (e_s_t (e_mod (e_varT (pv 2)) (e_s_t e_int))) (e_s_t e_int))
(b_cons (s_set (i := 7) sc__law_left_by.nd rfl (Or.inl rfl) (e_mul (e_varT (pv 7)) (e_varT (pv 7))))
(b_cons (s_set (i := 6) sc__law_left_by.nd rfl (Or.inl rfl) (e_sub (e_varT (pv 6)) (e_s_t (e_mod (e_varT (pv 6)) (e_s_t e_int)))))
b_nil))
b_nil)
(b_cons (s_if (t_w (w_and (t_eq hr.units (e_s_t (e_mod (e_varT (pv 2)) (e_s_t e_int))) (e_s_t e_int)) (w_and1 (t_eq hr.units (e_varT (pv 0)) (e_s_t e_int)))))
(b_cons (s_set (i := 7) sc__law_left_by.nd rfl (Or.inl rfl) (e_add (e_s_t (e_mul (e_s_t e_int) (e_varT (pv 7)))) (e_s_t e_int)))
b_nil)
b_nil)
(b_cons (s_ret (e_callD (ok__law_of_whole B) hr (by decide) tk_of (by rfl) (a_cons (e_var (pv 0)) (a_cons (e_var (pv 6)) (a_cons (e_var (pv 7)) (a_cons (e_var (pv 5)) a_nil)))) (ALen.cons (ALen.cons (ALen.cons (ALen.cons ALen.nil))))))
b_nil)))))))
theorem ok__law_left_by (B : Tx K mg) : Okd P w K mg base "_law_left_by" ["_law_p", "_law_a", "_law_b", "_law_c", "_law_plain"] 2 5 false F__law_left_by := def_ok B.d__law_left_by sc__law_left_by rfl (fun z => nomatch z) fun f cdv A outer s H E hr => bd__law_left_by B hr
theorem bd__law_begins (B : Tx K mg) {f : Addr} {cdv : Value} {A : Around} {outer : List PySem.Env} {s : Shared} {H : Hp} {E : XK} (hr : Room 1 (A.deeper (envOfC "_law_begins" (defScope st__law_begins) s.heap.objs.size f cdv))) :
    BJ (cxOf (L2N.CX P w) P w K mg base ["_law_p", "_law_top_here", "_law_bottom", "_law_one", "_law_far", "_law_end", "_law_apart"] "_law_begins" (defScope st__law_begins) f cdv A outer s H E) (fun cls d _ H => E cls d H) false (defBody st__law_begins) D__law_begins :=
  (b_cons (s_set (i := 5) sc__law_begins.nd rfl (Or.inl rfl) (e_add (e_s_t (e_add (e_s_t (e_item (e_varT (pv 3)) (e_s_t e_int) (fun _ _ => rfl))) (e_s_t (e_len B.n_len (by rfl) (a_cons (e_s_t (e_item (e_varT (pv 3)) (e_s_t e_int) (fun _ _ => rfl))) a_nil))))) (e_varT (pv 4))))
(b_cons (s_set (i := 6) sc__law_begins.nd rfl (Or.inl rfl) (e_sub (e_varT (pv 1)) (e_s_t (e_mul (e_s_t (e_mul (e_varT (pv 2)) (e_s_t (e_callD (ok__law_unit B) hr (by decide) tk_of (by rfl) (a_cons (e_var (pv 3)) a_nil) (ALen.cons ALen.nil))))) (e_s_t (e_callD (ok__law_power B) hr (by decide) tk_of (by rfl) (a_cons (e_var (pv 0)) (a_cons (e_max2 rfl B.n_max (by rfl) (a_cons (e_s_t e_int) (a_cons (e_s_t (e_add (e_s_t (e_item (e_varT (pv 3)) (e_s_t e_int) (fun _ _ => rfl))) (e_varT (pv 4)))) a_nil))) a_nil)) (ALen.cons (ALen.cons ALen.nil))))))))
(b_cons (s_ret (e_eq hr.units (e_s_t (e_mod (e_varT (pv 6)) (e_s_t (e_callD (ok__law_power B) hr (by decide) tk_of (by rfl) (a_cons (e_var (pv 0)) (a_cons (e_max2 rfl B.n_max (by rfl) (a_cons (e_s_t e_int) (a_cons (e_varT (pv 5)) a_nil))) a_nil)) (ALen.cons (ALen.cons ALen.nil)))))) (e_s_t e_int)))
b_nil)))
theorem ok__law_begins (B : Tx K mg) : Okd P w K mg base "_law_begins" ["_law_p", "_law_top_here", "_law_bottom", "_law_one", "_law_far"] 2 5 false F__law_begins := def_ok B.d__law_begins sc__law_begins rfl (fun z => nomatch z) fun f cdv A outer s H E hr => bd__law_begins B hr
theorem bd__law_top (B : Tx K mg) {f : Addr} {cdv : Value} {A : Around} {outer : List PySem.Env} {s : Shared} {H : Hp} {E : XK} (hr : Room 1 (A.deeper (envOfC "_law_top" (defScope st__law_top) s.heap.objs.size f cdv))) :
    BJ (cxOf (L2N.CX P w) P w K mg base ["_law_p", "_law_roots", "_law_a", "_law_b", "_law_bottom", "_law_plain", "_law_far", "_law_root", "_law_end", "_law_top_here"] "_law_top" (defScope st__law_top) f cdv A outer s H E) (fun cls d _ H => E cls d H) false (defBody st__law_top) D__law_top :=
  (b_cons (s_set (i := 6) sc__law_top.nd rfl (Or.inl rfl) (e_mod (e_s_t (e_fdiv (e_varT (pv 3)) (e_s_t e_int))) (e_s_t (e_pow (e_s_t e_int) (e_s_t e_int)))))
(b_cons (s_if (t_w (w_and (t_val (e_var (pv 5))) (w_and1 (t_w (w_or (t_eq hr.units (e_varT (pv 1)) (e_f_t (e_lst a_nil))) (w_or1 (t_eq hr.units (e_s_t (e_mod (e_varT (pv 2)) (e_s_t e_int))) (e_s_t e_int))))))))
(b_cons (s_ret (e_fdiv (e_varT (pv 2)) (e_s_t e_int)))
b_nil)
b_nil)
(b_cons (s_if (t_w (w_or (t_eq hr.units (e_varT (pv 1)) (e_f_t (e_lst a_nil))) (w_or1 (t_eq hr.units (e_s_t (e_mod (e_varT (pv 2)) (e_s_t e_int))) (e_s_t e_int)))))
(b_cons (s_ret (e_mul (e_s_t (e_mod (e_s_t (e_mul (e_s_t (e_fdiv (e_varT (pv 2)) (e_s_t e_int))) (e_s_t e_int))) (e_s_t (e_pow (e_s_t e_int) (e_s_t e_int))))) (e_s_t (e_callD (ok__law_power B) hr (by decide) tk_of (by rfl) (a_cons (e_var (pv 0)) (a_cons (e_mod (e_varT (pv 6)) (e_s_t e_int)) a_nil)) (ALen.cons (ALen.cons ALen.nil))))))
b_nil)
b_nil)
(b_cons (s_set (i := 7) sc__law_top.nd rfl (Or.inl rfl) (e_item (e_varT (pv 1)) (e_s_t (e_mod (e_s_t (e_fdiv (e_varT (pv 2)) (e_s_t e_int))) (e_s_t (e_len B.n_len (by rfl) (a_cons (e_varT (pv 1)) a_nil))))) (fun _ _ => rfl)))
(b_cons (s_set (i := 8) sc__law_top.nd rfl (Or.inl rfl) (e_add (e_s_t (e_add (e_s_t (e_item (e_varT (pv 7)) (e_s_t e_int) (fun _ _ => rfl))) (e_s_t (e_len B.n_len (by rfl) (a_cons (e_s_t (e_item (e_varT (pv 7)) (e_s_t e_int) (fun _ _ => rfl))) a_nil))))) (e_s_t e_int)))
(b_cons (s_set (i := 9) sc__law_top.nd rfl (Or.inl rfl) (e_add (e_s_t (e_mul (e_s_t (e_mul (e_s_t (e_callD (ok__law_unit B) hr (by decide) tk_of (by rfl) (a_cons (e_var (pv 7)) a_nil) (ALen.cons ALen.nil))) (e_s_t (e_callD (ok__law_power B) hr (by decide) tk_of (by rfl) (a_cons (e_var (pv 0)) (a_cons (e_add (e_s_t (e_item (e_varT (pv 7)) (e_s_t e_int) (fun _ _ => rfl))) (e_s_t e_int)) a_nil)) (ALen.cons (ALen.cons ALen.nil)))))) (e_varT (pv 4)))) (e_s_t (e_mul (e_varT (pv 6)) (e_s_t (e_callD (ok__law_power B) hr (by decide) tk_of (by rfl) (a_cons (e_var (pv 0)) (a_cons (e_var (pv 8)) a_nil)) (ALen.cons (ALen.cons ALen.nil))))))))
(b_cons (s_if (t_eq hr.units (e_s_t (e_mod (e_varT (pv 2)) (e_s_t e_int))) (e_s_t e_int))
(b_cons (s_set (i := 9) sc__law_top.nd rfl (Or.inl rfl) (e_add (e_varT (pv 9)) (e_s_t (e_mul (e_s_t (e_add (e_s_t e_int) (e_s_t (e_mod (e_varT (pv 6)) (e_s_t (e_sub (e_varT (pv 0)) (e_s_t e_int))))))) (e_s_t (e_callD (ok__law_power B) hr (by decide) tk_of (by rfl) (a_cons (e_var (pv 0)) (a_cons (e_sub (e_varT (pv 8)) (e_s_t e_int)) a_nil)) (ALen.cons (ALen.cons ALen.nil))))))))
b_nil)
b_nil)
(b_cons (s_if (t_eq hr.units (e_s_t (e_mod (e_varT (pv 2)) (e_s_t e_int))) (e_s_t e_int))
(b_cons (s_set (i := 9) sc__law_top.nd rfl (Or.inl rfl) (e_add (e_varT (pv 9)) (e_s_t (e_mul (e_s_t (e_add (e_s_t e_int) (e_s_t (e_mod (e_varT (pv 6)) (e_s_t (e_sub (e_varT (pv 0)) (e_s_t e_int))))))) (e_s_t (e_callD (ok__law_power B) hr (by decide) tk_of (by rfl) (a_cons (e_var (pv 0)) (a_cons (e_sub (e_s_t (e_sub (e_varT (pv 8)) (e_s_t e_int))) (e_s_t (e_mod (e_s_t (e_fdiv (e_varT (pv 2)) (e_s_t e_int))) (e_varT (pv 8))))) a_nil)) (ALen.cons (ALen.cons ALen.nil))))))))
b_nil)
b_nil)
(b_cons (s_ret (e_var (pv 9)))
b_nil)))))))))
theorem ok__law_top (B : Tx K mg) : Okd P w K mg base "_law_top" ["_law_p", "_law_roots", "_law_a", "_law_b", "_law_bottom", "_law_plain"] 2 6 false F__law_top := def_ok B.d__law_top sc__law_top rfl (fun z => nomatch z) fun f cdv A outer s H E hr => bd__law_top B hr
theorem bd_law (B : Tx K mg) {f : Addr} {cdv : Value} {A : Around} {outer : List PySem.Env} {s : Shared} {H : Hp} {E : XK} (hr : Room 6 (A.deeper (envOfC "law" (defScope st_law) s.heap.objs.size f cdv))) :
    BJ (cxOf (L2N.CX P w) P w K mg base ["_law_script", "_law_p", "_law_plain", "_law_one", "_law_roots", "_law_cells", "_law_k", "_law_bottom", "_law_top_here", "_law_begun", "_law_square", "_law_root"] "law" (defScope st_law) f cdv A outer s H E) (fun cls d _ H => E cls d H) false (defBody st_law) D_law :=
  (b_cons (s_set (i := 1) sc_law.nd rfl (Or.inr rfl) (e_callD (ok__law_prime B) hr (by decide) tk_of (by rfl) (a_cons (e_callD (ok__law_cell_at B) hr (by decide) tk_of (by rfl) (a_cons (e_var (pv 0)) (a_cons e_int a_nil)) (ALen.cons (ALen.cons ALen.nil))) a_nil) (ALen.cons ALen.nil)))
(b_cons (s_set (i := 2) sc_law.nd rfl (Or.inl rfl) (e_eq hr.units (e_s_t (e_mod (e_s_t (e_fdiv (e_s_t (e_callD (ok__law_cell_at B) hr (by decide) tk_of (by rfl) (a_cons (e_var (pv 0)) (a_cons e_int a_nil)) (ALen.cons (ALen.cons ALen.nil)))) (e_s_t e_int))) (e_s_t e_int))) (e_s_t e_int)))
(b_cons (s_set (i := 3) sc_law.nd rfl (Or.inl rfl) (e_callD (ok__law_left_by B) hr (by decide) tk_of (by rfl) (a_cons (e_var (pv 1)) (a_cons (e_callD (ok__law_cell_at B) hr (by decide) tk_of (by rfl) (a_cons (e_var (pv 0)) (a_cons e_int a_nil)) (ALen.cons (ALen.cons ALen.nil))) (a_cons (e_callD (ok__law_cell_at B) hr (by decide) tk_of (by rfl) (a_cons (e_var (pv 0)) (a_cons e_int a_nil)) (ALen.cons (ALen.cons ALen.nil))) (a_cons (e_callD (ok__law_cell_at B) hr (by decide) tk_of (by rfl) (a_cons (e_var (pv 0)) (a_cons e_int a_nil)) (ALen.cons (ALen.cons ALen.nil))) (a_cons (e_var (pv 2)) a_nil))))) (ALen.cons (ALen.cons (ALen.cons (ALen.cons (ALen.cons ALen.nil)))))))
(b_cons (s_set (i := 4) sc_law.nd rfl (Or.inl rfl) (e_f_s (e_callD (ok_square_roots B) hr (by decide) tk_of (by rfl) (a_cons (e_var (pv 3)) a_nil) (ALen.cons ALen.nil))))
(b_cons (s_if (t_w (w_or (t_not (t_val (e_isi (n := "list") B.n_isinstance (by rfl) (e_varT (pv 4)) (pe_bltn (by rfl) B.n_list (by decide +kernel) rfl)))) (w_or1 (t_not (t_val (e_all rfl B.n_all (by rfl) (a_cons (e_f_t (e_lc (own := [("_law_root", 11)]) rfl sc_law.nd (i_seq (e_var (pv 4))) (blkOk_by (own := [("_law_root", 11)]) (N := ["_law_script", "_law_p", "_law_plain", "_law_one", "_law_roots", "_law_cells", "_law_k", "_law_bottom", "_law_top_here", "_law_begun", "_law_square", "_law_root"]) (sc := defScope st_law) (by decide +kernel)) (by decide) (fun _ _ _ _ _ => (g_name (pg_name (i := 11) sc_law.nd rfl (Or.inl rfl)))) (fun _ _ _ _ _ => c_nil) (fun _ _ _ _ _ => (e_callD (ok__law_is_left B) hr (by decide) takesN (by rfl) (a_cons (e_var (pv 11)) (a_cons (e_var (pv 1)) a_nil)) (ALen.cons (ALen.cons ALen.nil)))))) a_nil)))))))
(b_cons (s_ret e_bl)
b_nil)
b_nil)
(b_cons (s_set (i := 5) sc_law.nd rfl (Or.inl rfl) (e_add (e_s_t (e_slice (e_varT (pv 0)) (o_some e_int) (o_some e_int))) (e_f_t (e_lst (a_cons e_int (a_cons e_int a_nil))))))
(b_cons (s_for hp_of rfl (i_rng3S B.n_range (by rfl) (a_cons (e_s_t e_int) (a_cons (e_s_t (e_sub (e_s_t (e_len B.n_len (by rfl) (a_cons (e_varT (pv 5)) a_nil))) (e_s_t e_int))) (a_cons (e_s_t e_int) a_nil)))) (g_name (pg_name (i := 6) sc_law.nd rfl (Or.inl rfl)))
(b_cons (s_set (i := 7) sc_law.nd rfl (Or.inr rfl) (e_add (e_s_t e_int) (e_s_t (e_mod (e_s_t (e_item (e_varT (pv 5)) (e_s_t (e_add (e_varT (pv 6)) (e_s_t e_int))) (fun _ _ => rfl))) (e_s_t e_int)))))
(b_cons (s_if (t_eq hr.units (e_s_t (e_mod (e_varT (pv 7)) (e_varT (pv 1)))) (e_s_t e_int))
(b_cons (s_set (i := 7) sc_law.nd rfl (Or.inr rfl) e_int)
b_nil)
b_nil)
(b_cons (s_set (i := 8) sc_law.nd rfl (Or.inr rfl) (e_callD (ok__law_top B) hr (by decide) tk_of (by rfl) (a_cons (e_var (pv 1)) (a_cons (e_var (pv 4)) (a_cons (e_item (e_varT (pv 5)) (e_varT (pv 6)) (fun _ _ => rfl)) (a_cons (e_item (e_varT (pv 5)) (e_s_t (e_add (e_varT (pv 6)) (e_s_t e_int))) (fun _ _ => rfl)) (a_cons (e_var (pv 7)) (a_cons (e_var (pv 2)) a_nil)))))) (ALen.cons (ALen.cons (ALen.cons (ALen.cons (ALen.cons (ALen.cons ALen.nil))))))))
(b_cons (s_if (t_eq hr.units (e_s_t (e_mod (e_s_t (e_fdiv (e_s_t (e_item (e_varT (pv 5)) (e_s_t (e_add (e_varT (pv 6)) (e_s_t e_int))) (fun _ _ => rfl))) (e_s_t e_int))) (e_s_t e_int))) (e_s_t e_int))
(b_cons (s_set (i := 8) sc_law.nd rfl (Or.inr rfl) (e_sub (e_s_t e_int) (e_varT (pv 8))))
b_nil)
b_nil)
(b_cons (lcs (i := 9) (own := [("_law_root", 11)]) (q_lc (by decide)) rfl sc_law.nd rfl rfl (sw_true rfl rfl rfl (by decide +kernel)) (i_seq (e_var (pv 4))) (blkOk_by (own := [("_law_root", 11)]) (N := ["_law_script", "_law_p", "_law_plain", "_law_one", "_law_roots", "_law_cells", "_law_k", "_law_bottom", "_law_top_here", "_law_begun", "_law_square", "_law_root"]) (sc := defScope st_law) (by decide +kernel)) (fun _ _ _ _ _ => (g_name (pg_name (i := 11) sc_law.nd rfl (Or.inl rfl)))) (fun _ _ _ _ _ => (c_one (t_val (e_callD (ok__law_begins B) hr (by decide) takesN (by rfl) (a_cons (e_var (pv 1)) (a_cons (e_var (pv 8)) (a_cons (e_var (pv 7)) (a_cons (e_var (pv 11)) (a_cons e_int a_nil))))) (ALen.cons (ALen.cons (ALen.cons (ALen.cons (ALen.cons ALen.nil))))))))) (fun _ _ _ _ _ => (e_var (pv 11))))
(b_cons (s_set (i := 10) sc_law.nd rfl (Or.inl rfl) (e_callD (ok__law_begins B) hr (by decide) tk_of (by rfl) (a_cons (e_var (pv 1)) (a_cons (e_mul (e_varT (pv 8)) (e_varT (pv 8))) (a_cons (e_mul (e_varT (pv 7)) (e_varT (pv 7))) (a_cons (e_var (pv 3)) (a_cons e_int a_nil))))) (ALen.cons (ALen.cons (ALen.cons (ALen.cons (ALen.cons ALen.nil)))))))
(b_cons (s_if (t_w (w_or (t_gt (e_s_t (e_len B.n_len (by rfl) (a_cons (e_varT (pv 9)) a_nil))) (e_s_t e_int)) (w_or1 (t_ne hr.units (e_varT (pv 10)) (e_s_t (e_eq hr.units (e_s_t (e_len B.n_len (by rfl) (a_cons (e_varT (pv 9)) a_nil))) (e_s_t e_int)))))))
(b_cons (s_ret e_bl)
b_nil)
b_nil)
b_nil))))))))
(b_cons (s_ret e_bl)
b_nil))))))))
end
theorem all_mk {l : PySem.W.OpenLaw} {w : World} {K : PySem.W.Frag} {h : Heap} {mg : Str → Option Value} {fa : Addr} (X : K.In h) (G : h.Ns mainGlobals mg) (hfa : mg "law" = some (.ref fa))
    {f0 : Addr} {od0 an0 : Option Addr} {sl0 : Array (Option Value)} {oc0 kV0 dc0 pm0 cd0 ct0 : Value}
    {f1 : Addr} {od1 an1 : Option Addr} {sl1 : Array (Option Value)} {oc1 kV1 dc1 pm1 cd1 ct1 : Value}
    {f2 : Addr} {od2 an2 : Option Addr} {sl2 : Array (Option Value)} {oc2 kV2 dc2 pm2 cd2 ct2 : Value}
    {f3 : Addr} {od3 an3 : Option Addr} {sl3 : Array (Option Value)} {oc3 kV3 dc3 pm3 cd3 ct3 : Value}
    {f4 : Addr} {od4 an4 : Option Addr} {sl4 : Array (Option Value)} {oc4 kV4 dc4 pm4 cd4 ct4 : Value}
    {f5 : Addr} {od5 an5 : Option Addr} {sl5 : Array (Option Value)} {oc5 kV5 dc5 pm5 cd5 ct5 : Value}
    {f6 : Addr} {od6 an6 : Option Addr} {sl6 : Array (Option Value)} {oc6 kV6 dc6 pm6 cd6 ct6 : Value}
    {f7 : Addr} {od7 an7 : Option Addr} {sl7 : Array (Option Value)} {oc7 kV7 dc7 pm7 cd7 ct7 : Value}
    {f8 : Addr} {od8 an8 : Option Addr} {sl8 : Array (Option Value)} {oc8 kV8 dc8 pm8 cd8 ct8 : Value}
    {f9 : Addr} {od9 an9 : Option Addr} {sl9 : Array (Option Value)} {oc9 kV9 dc9 pm9 cd9 ct9 : Value}
    {f10 : Addr} {od10 an10 : Option Addr} {sl10 : Array (Option Value)} {oc10 kV10 dc10 pm10 cd10 ct10 : Value}
    {f11 : Addr} {od11 an11 : Option Addr} {sl11 : Array (Option Value)} {oc11 kV11 dc11 pm11 cd11 ct11 : Value}
    {f12 : Addr} {od12 an12 : Option Addr} {sl12 : Array (Option Value)} {oc12 kV12 dc12 pm12 cd12 ct12 : Value}
    {f13 : Addr} {od13 an13 : Option Addr} {sl13 : Array (Option Value)} {oc13 kV13 dc13 pm13 cd13 ct13 : Value}
    {f14 : Addr} {od14 an14 : Option Addr} {sl14 : Array (Option Value)} {oc14 kV14 dc14 pm14 cd14 ct14 : Value}
    {f15 : Addr} {od15 an15 : Option Addr} {sl15 : Array (Option Value)} {oc15 kV15 dc15 pm15 cd15 ct15 : Value}
    {f16 : Addr} {od16 an16 : Option Addr} {sl16 : Array (Option Value)} {oc16 kV16 dc16 pm16 cd16 ct16 : Value}
    {f17 : Addr} {od17 an17 : Option Addr} {sl17 : Array (Option Value)} {oc17 kV17 dc17 pm17 cd17 ct17 : Value}
    {f18 : Addr} {od18 an18 : Option Addr} {sl18 : Array (Option Value)} {oc18 kV18 dc18 pm18 cd18 ct18 : Value}
    {f19 : Addr} {od19 an19 : Option Addr} {sl19 : Array (Option Value)} {oc19 kV19 dc19 pm19 cd19 ct19 : Value}
    {f20 : Addr} {od20 an20 : Option Addr} {sl20 : Array (Option Value)} {oc20 kV20 dc20 pm20 cd20 ct20 : Value}
    {f21 : Addr} {od21 an21 : Option Addr} {sl21 : Array (Option Value)} {oc21 kV21 dc21 pm21 cd21 ct21 : Value}
    {f22 : Addr} {od22 an22 : Option Addr} {sl22 : Array (Option Value)} {oc22 kV22 dc22 pm22 cd22 ct22 : Value}
    {f23 : Addr} {od23 an23 : Option Addr} {sl23 : Array (Option Value)} {oc23 kV23 dc23 pm23 cd23 ct23 : Value}
    {t0 : Tok}
    {C0 : Addr}
    {C1 : Addr}
    {C2 : Addr}
    (a0 : PySem.W.nsIn K mainGlobals "is_whole" = some (some (.ref f0))) (l0 : K.lookup f0 = some ⟨oc0, od0, .func (PySem.W.fnOf "is_whole" "is_whole" (defArgs st_is_whole) (defBody st_is_whole) (defScope st_is_whole) .none kV0 dc0 pm0 an0 cd0 ct0), sl0⟩) (c0 : PySem.W.codeIn K cd0 "is_whole" = true) (k0 : PySem.W.keepIn K (.ref f0) = true)
    (a1 : PySem.W.nsIn K mainGlobals "is_prime" = some (some (.ref f1))) (l1 : K.lookup f1 = some ⟨oc1, od1, .func (PySem.W.fnOf "is_prime" "is_prime" (defArgs st_is_prime) (defBody st_is_prime) (defScope st_is_prime) .none kV1 dc1 pm1 an1 cd1 ct1), sl1⟩) (c1 : PySem.W.codeIn K cd1 "is_prime" = true) (k1 : PySem.W.keepIn K (.ref f1) = true)
    (a2 : PySem.W.nsIn K mainGlobals "power_of" = some (some (.ref f2))) (l2 : K.lookup f2 = some ⟨oc2, od2, .func (PySem.W.fnOf "power_of" "power_of" (defArgs st_power_of) (defBody st_power_of) (defScope st_power_of) .none kV2 dc2 pm2 an2 cd2 ct2), sl2⟩) (c2 : PySem.W.codeIn K cd2 "power_of" = true) (k2 : PySem.W.keepIn K (.ref f2) = true)
    (a3 : PySem.W.nsIn K mainGlobals "are_figures" = some (some (.ref f3))) (l3 : K.lookup f3 = some ⟨oc3, od3, .func (PySem.W.fnOf "are_figures" "are_figures" (defArgs st_are_figures) (defBody st_are_figures) (defScope st_are_figures) .none kV3 dc3 pm3 an3 cd3 ct3), sl3⟩) (c3 : PySem.W.codeIn K cd3 "are_figures" = true) (k3 : PySem.W.keepIn K (.ref f3) = true)
    (a4 : PySem.W.nsIn K mainGlobals "left_number" = some (some (.ref f4))) (l4 : K.lookup f4 = some ⟨oc4, od4, .func (PySem.W.fnOf "left_number" "left_number" (defArgs st_left_number) (defBody st_left_number) (defScope st_left_number) .none kV4 dc4 pm4 an4 cd4 ct4), sl4⟩) (c4 : PySem.W.codeIn K cd4 "left_number" = true) (k4 : PySem.W.keepIn K (.ref f4) = true)
    (a5 : PySem.W.nsIn K mainGlobals "known_of" = some (some (.ref f5))) (l5 : K.lookup f5 = some ⟨oc5, od5, .func (PySem.W.fnOf "known_of" "known_of" (defArgs st_known_of) (defBody st_known_of) (defScope st_known_of) .none kV5 dc5 pm5 an5 cd5 ct5), sl5⟩) (c5 : PySem.W.codeIn K cd5 "known_of" = true) (k5 : PySem.W.keepIn K (.ref f5) = true)
    (a6 : PySem.W.nsIn K mainGlobals "unit_of" = some (some (.ref f6))) (l6 : K.lookup f6 = some ⟨oc6, od6, .func (PySem.W.fnOf "unit_of" "unit_of" (defArgs st_unit_of) (defBody st_unit_of) (defScope st_unit_of) .none kV6 dc6 pm6 an6 cd6 ct6), sl6⟩) (c6 : PySem.W.codeIn K cd6 "unit_of" = true) (k6 : PySem.W.keepIn K (.ref f6) = true)
    (a7 : PySem.W.nsIn K mainGlobals "of_whole" = some (some (.ref f7))) (l7 : K.lookup f7 = some ⟨oc7, od7, .func (PySem.W.fnOf "of_whole" "of_whole" (defArgs st_of_whole) (defBody st_of_whole) (defScope st_of_whole) .none kV7 dc7 pm7 an7 cd7 ct7), sl7⟩) (c7 : PySem.W.codeIn K cd7 "of_whole" = true) (k7 : PySem.W.keepIn K (.ref f7) = true)
    (a8 : PySem.W.nsIn K mainGlobals "undone" = some (some (.ref f8))) (l8 : K.lookup f8 = some ⟨oc8, od8, .func (PySem.W.fnOf "undone" "undone" (defArgs st_undone) (defBody st_undone) (defScope st_undone) .none kV8 dc8 pm8 an8 cd8 ct8), sl8⟩) (c8 : PySem.W.codeIn K cd8 "undone" = true) (k8 : PySem.W.keepIn K (.ref f8) = true)
    (a9 : PySem.W.nsIn K mainGlobals "odd_roots" = some (some (.ref f9))) (l9 : K.lookup f9 = some ⟨oc9, od9, .func (PySem.W.fnOf "odd_roots" "odd_roots" (defArgs st_odd_roots) (defBody st_odd_roots) (defScope st_odd_roots) .none kV9 dc9 pm9 an9 cd9 ct9), sl9⟩) (c9 : PySem.W.codeIn K cd9 "odd_roots" = true) (k9 : PySem.W.keepIn K (.ref f9) = true)
    (a10 : PySem.W.nsIn K mainGlobals "even_roots" = some (some (.ref f10))) (l10 : K.lookup f10 = some ⟨oc10, od10, .func (PySem.W.fnOf "even_roots" "even_roots" (defArgs st_even_roots) (defBody st_even_roots) (defScope st_even_roots) .none kV10 dc10 pm10 an10 cd10 ct10), sl10⟩) (c10 : PySem.W.codeIn K cd10 "even_roots" = true) (k10 : PySem.W.keepIn K (.ref f10) = true)
    (a11 : PySem.W.nsIn K mainGlobals "square_roots" = some (some (.ref f11))) (l11 : K.lookup f11 = some ⟨oc11, od11, .func (PySem.W.fnOf "square_roots" "square_roots" (defArgs st_square_roots) (defBody st_square_roots) (defScope st_square_roots) .none kV11 dc11 pm11 an11 cd11 ct11), sl11⟩) (c11 : PySem.W.codeIn K cd11 "square_roots" = true) (k11 : PySem.W.keepIn K (.ref f11) = true)
    (a12 : PySem.W.nsIn K mainGlobals "_law_cell_at" = some (some (.ref f12))) (l12 : K.lookup f12 = some ⟨oc12, od12, .func (PySem.W.fnOf "_law_cell_at" "_law_cell_at" (defArgs st__law_cell_at) (defBody st__law_cell_at) (defScope st__law_cell_at) .none kV12 dc12 pm12 an12 cd12 ct12), sl12⟩) (c12 : PySem.W.codeIn K cd12 "_law_cell_at" = true) (k12 : PySem.W.keepIn K (.ref f12) = true)
    (a13 : PySem.W.nsIn K mainGlobals "_law_whole" = some (some (.ref f13))) (l13 : K.lookup f13 = some ⟨oc13, od13, .func (PySem.W.fnOf "_law_whole" "_law_whole" (defArgs st__law_whole) (defBody st__law_whole) (defScope st__law_whole) .none kV13 dc13 pm13 an13 cd13 ct13), sl13⟩) (c13 : PySem.W.codeIn K cd13 "_law_whole" = true) (k13 : PySem.W.keepIn K (.ref f13) = true)
    (a14 : PySem.W.nsIn K mainGlobals "_law_prime" = some (some (.ref f14))) (l14 : K.lookup f14 = some ⟨oc14, od14, .func (PySem.W.fnOf "_law_prime" "_law_prime" (defArgs st__law_prime) (defBody st__law_prime) (defScope st__law_prime) .none kV14 dc14 pm14 an14 cd14 ct14), sl14⟩) (c14 : PySem.W.codeIn K cd14 "_law_prime" = true) (k14 : PySem.W.keepIn K (.ref f14) = true)
    (a15 : PySem.W.nsIn K mainGlobals "_law_power" = some (some (.ref f15))) (l15 : K.lookup f15 = some ⟨oc15, od15, .func (PySem.W.fnOf "_law_power" "_law_power" (defArgs st__law_power) (defBody st__law_power) (defScope st__law_power) .none kV15 dc15 pm15 an15 cd15 ct15), sl15⟩) (c15 : PySem.W.codeIn K cd15 "_law_power" = true) (k15 : PySem.W.keepIn K (.ref f15) = true)
    (a16 : PySem.W.nsIn K mainGlobals "_law_is_left" = some (some (.ref f16))) (l16 : K.lookup f16 = some ⟨oc16, od16, .func (PySem.W.fnOf "_law_is_left" "_law_is_left" (defArgs st__law_is_left) (defBody st__law_is_left) (defScope st__law_is_left) .none kV16 dc16 pm16 an16 cd16 ct16), sl16⟩) (c16 : PySem.W.codeIn K cd16 "_law_is_left" = true) (k16 : PySem.W.keepIn K (.ref f16) = true)
    (a17 : PySem.W.nsIn K mainGlobals "_law_unit" = some (some (.ref f17))) (l17 : K.lookup f17 = some ⟨oc17, od17, .func (PySem.W.fnOf "_law_unit" "_law_unit" (defArgs st__law_unit) (defBody st__law_unit) (defScope st__law_unit) .none kV17 dc17 pm17 an17 cd17 ct17), sl17⟩) (c17 : PySem.W.codeIn K cd17 "_law_unit" = true) (k17 : PySem.W.keepIn K (.ref f17) = true)
    (a18 : PySem.W.nsIn K mainGlobals "_law_of_whole" = some (some (.ref f18))) (l18 : K.lookup f18 = some ⟨oc18, od18, .func (PySem.W.fnOf "_law_of_whole" "_law_of_whole" (defArgs st__law_of_whole) (defBody st__law_of_whole) (defScope st__law_of_whole) .none kV18 dc18 pm18 an18 cd18 ct18), sl18⟩) (c18 : PySem.W.codeIn K cd18 "_law_of_whole" = true) (k18 : PySem.W.keepIn K (.ref f18) = true)
    (a19 : PySem.W.nsIn K mainGlobals "_law_filled" = some (some (.ref f19))) (l19 : K.lookup f19 = some ⟨oc19, od19, .func (PySem.W.fnOf "_law_filled" "_law_filled" (defArgs st__law_filled) (defBody st__law_filled) (defScope st__law_filled) .none kV19 dc19 pm19 an19 cd19 ct19), sl19⟩) (c19 : PySem.W.codeIn K cd19 "_law_filled" = true) (k19 : PySem.W.keepIn K (.ref f19) = true)
    (a20 : PySem.W.nsIn K mainGlobals "_law_left_by" = some (some (.ref f20))) (l20 : K.lookup f20 = some ⟨oc20, od20, .func (PySem.W.fnOf "_law_left_by" "_law_left_by" (defArgs st__law_left_by) (defBody st__law_left_by) (defScope st__law_left_by) .none kV20 dc20 pm20 an20 cd20 ct20), sl20⟩) (c20 : PySem.W.codeIn K cd20 "_law_left_by" = true) (k20 : PySem.W.keepIn K (.ref f20) = true)
    (a21 : PySem.W.nsIn K mainGlobals "_law_begins" = some (some (.ref f21))) (l21 : K.lookup f21 = some ⟨oc21, od21, .func (PySem.W.fnOf "_law_begins" "_law_begins" (defArgs st__law_begins) (defBody st__law_begins) (defScope st__law_begins) .none kV21 dc21 pm21 an21 cd21 ct21), sl21⟩) (c21 : PySem.W.codeIn K cd21 "_law_begins" = true) (k21 : PySem.W.keepIn K (.ref f21) = true)
    (a22 : PySem.W.nsIn K mainGlobals "_law_top" = some (some (.ref f22))) (l22 : K.lookup f22 = some ⟨oc22, od22, .func (PySem.W.fnOf "_law_top" "_law_top" (defArgs st__law_top) (defBody st__law_top) (defScope st__law_top) .none kV22 dc22 pm22 an22 cd22 ct22), sl22⟩) (c22 : PySem.W.codeIn K cd22 "_law_top" = true) (k22 : PySem.W.keepIn K (.ref f22) = true)
    (a23 : PySem.W.nsIn K mainGlobals "law" = some (some (.ref f23))) (l23 : K.lookup f23 = some ⟨oc23, od23, .func (PySem.W.fnOf "law" "law" (defArgs st_law) (defBody st_law) (defScope st_law) .none kV23 dc23 pm23 an23 cd23 ct23), sl23⟩) (c23 : PySem.W.codeIn K cd23 "law" = true) (k23 : PySem.W.keepIn K (.ref f23) = true)
    (z0 : PySem.W.nsIn K mainGlobals "abs" = some none)
    (z1 : PySem.W.nsIn K mainGlobals "all" = some none)
    (z2 : PySem.W.nsIn K mainGlobals "bool" = some none)
    (z3 : PySem.W.nsIn K mainGlobals "divmod" = some none)
    (z4 : PySem.W.nsIn K mainGlobals "int" = some none)
    (z5 : PySem.W.nsIn K mainGlobals "isinstance" = some none)
    (z6 : PySem.W.nsIn K mainGlobals "len" = some none)
    (z7 : PySem.W.nsIn K mainGlobals "list" = some none)
    (z8 : PySem.W.nsIn K mainGlobals "max" = some none)
    (z9 : PySem.W.nsIn K mainGlobals "range" = some none)
    (z10 : PySem.W.nsIn K mainGlobals "reversed" = some none)
    (z11 : PySem.W.nsIn K mainGlobals "sorted" = some none)
    (z12 : PySem.W.nsIn K mainGlobals "tuple" = some none)
    (g0 : PySem.W.nsIn K mainGlobals "MOST_PRIME" = some (some (.int 97 t0)))
    (xa0 : PySem.W.nsIn K mainGlobals "NoFigures" = some (some (.ref C0))) (xe0 : PySem.W.excIn K C0 [.type "ValueError", .type "Exception", .type "BaseException", .type "object"] "ValueError.__new__" = true) (xk0 : PySem.W.keepIn K (.ref C0) = true) (xs0 : PySem.W.subIn K (.ref C0) (.type "BaseException") = some true) (xt0 : PySem.W.typeIn K (.ref C0) = some (.type "type"))
    (xa1 : PySem.W.nsIn K mainGlobals "NoPlace" = some (some (.ref C1))) (xe1 : PySem.W.excIn K C1 [.type "ValueError", .type "Exception", .type "BaseException", .type "object"] "ValueError.__new__" = true) (xk1 : PySem.W.keepIn K (.ref C1) = true) (xs1 : PySem.W.subIn K (.ref C1) (.type "BaseException") = some true) (xt1 : PySem.W.typeIn K (.ref C1) = some (.type "type"))
    (xa2 : PySem.W.nsIn K mainGlobals "NoPrime" = some (some (.ref C2))) (xe2 : PySem.W.excIn K C2 [.type "ValueError", .type "Exception", .type "BaseException", .type "object"] "ValueError.__new__" = true) (xk2 : PySem.W.keepIn K (.ref C2) = true) (xs2 : PySem.W.subIn K (.ref C2) (.type "BaseException") = some true) (xt2 : PySem.W.typeIn K (.ref C2) = some (.type "type"))
    : ∃ fd : FuncData, (∀ (s : Shared) (v : Value), BindsTo s fd ⟨[v], []⟩ [("_law_script", v)]) ∧ ∀ base : Heap, K.In base → base.Ns mainGlobals mg → FnOk l.prog w K mg base (L2N.CX l.prog w) 7 fa fd ["_law_script"] (spLaw K) := by
  have e := hfa.symm.trans (PySem.W.mg_of X G a23)
  cases e
  have B : Tx K mg := ⟨defE_mk X G a0 l0 c0 k0 fun _ _ _ _ _ _ us hl => match us, hl with | [_], _ => rfl,
    defE_mk X G a1 l1 c1 k1 fun _ _ _ _ _ _ us hl => match us, hl with | [_], _ => rfl,
    defE_mk X G a2 l2 c2 k2 fun _ _ _ _ _ _ us hl => match us, hl with | [_, _], _ => rfl,
    defE_mk X G a3 l3 c3 k3 fun _ _ _ _ _ _ us hl => match us, hl with | [_, _], _ => rfl,
    defE_mk X G a4 l4 c4 k4 fun _ _ _ _ _ _ us hl => match us, hl with | [_, _, _], _ => rfl,
    defE_mk X G a5 l5 c5 k5 fun _ _ _ _ _ _ us hl => match us, hl with | [_], _ => rfl,
    defE_mk X G a6 l6 c6 k6 fun _ _ _ _ _ _ us hl => match us, hl with | [_], _ => rfl,
    defE_mk X G a7 l7 c7 k7 fun _ _ _ _ _ _ us hl => match us, hl with | [_, _, _, _], _ => rfl,
    defE_mk X G a8 l8 c8 k8 fun _ _ _ _ _ _ us hl => match us, hl with | [_, _], _ => rfl,
    defE_mk X G a9 l9 c9 k9 fun _ _ _ _ _ _ us hl => match us, hl with | [_, _], _ => rfl,
    defE_mk X G a10 l10 c10 k10 fun _ _ _ _ _ _ us hl => match us, hl with | [_], _ => rfl,
    defE_mk X G a11 l11 c11 k11 fun _ _ _ _ _ _ us hl => match us, hl with | [_], _ => rfl,
    defE_mk X G a12 l12 c12 k12 fun _ _ _ _ _ _ us hl => match us, hl with | [_, _], _ => rfl,
    defE_mk X G a13 l13 c13 k13 fun _ _ _ _ _ _ us hl => match us, hl with | [_], _ => rfl,
    defE_mk X G a14 l14 c14 k14 fun _ _ _ _ _ _ us hl => match us, hl with | [_], _ => rfl,
    defE_mk X G a15 l15 c15 k15 fun _ _ _ _ _ _ us hl => match us, hl with | [_, _], _ => rfl,
    defE_mk X G a16 l16 c16 k16 fun _ _ _ _ _ _ us hl => match us, hl with | [_, _], _ => rfl,
    defE_mk X G a17 l17 c17 k17 fun _ _ _ _ _ _ us hl => match us, hl with | [_], _ => rfl,
    defE_mk X G a18 l18 c18 k18 fun _ _ _ _ _ _ us hl => match us, hl with | [_, _, _, _], _ => rfl,
    defE_mk X G a19 l19 c19 k19 fun _ _ _ _ _ _ us hl => match us, hl with | [_, _, _], _ => rfl,
    defE_mk X G a20 l20 c20 k20 fun _ _ _ _ _ _ us hl => match us, hl with | [_, _, _, _, _], _ => rfl,
    defE_mk X G a21 l21 c21 k21 fun _ _ _ _ _ _ us hl => match us, hl with | [_, _, _, _, _], _ => rfl,
    defE_mk X G a22 l22 c22 k22 fun _ _ _ _ _ _ us hl => match us, hl with | [_, _, _, _, _, _], _ => rfl,
    PySem.W.mg_none_of X G z0,
    PySem.W.mg_none_of X G z1,
    PySem.W.mg_none_of X G z2,
    PySem.W.mg_none_of X G z3,
    PySem.W.mg_none_of X G z4,
    PySem.W.mg_none_of X G z5,
    PySem.W.mg_none_of X G z6,
    PySem.W.mg_none_of X G z7,
    PySem.W.mg_none_of X G z8,
    PySem.W.mg_none_of X G z9,
    PySem.W.mg_none_of X G z10,
    PySem.W.mg_none_of X G z11,
    PySem.W.mg_none_of X G z12,
    glI_mk X G g0,
    excE_mk X G xa0 xe0 xk0 xs0 xt0,
    excE_mk X G xa1 xe1 xk1 xs1 xt1,
    excE_mk X G xa2 xe2 xk2 xs2 xt2⟩
  exact ⟨_, fun s v => .of_eq rfl, fun base _ _ => law_impB law_true (fn_mk (fun_mk (st := st_law) l23 c23 k23) sc_law rfl (fun z => nomatch z) fun cdv A outer s H E hr => bd_law B hr)⟩
end K82
open PySem PySem.W PyProof.Rows
set_option maxHeartbeats 0 in
theorem PySem.Challenge.cw_leftnumbers_k82_whole_which_squares_holds : PySem.Challenge.rw_leftnumbers_k82_whole_which_squares.Holds := by
  w_on; o_law; k_head; (case hw => w_witness2)
  k_fill
  refine L2.walk_ofB (l := PySem.Challenge.rw_leftnumbers_k82_whole_which_squares) (n := 63) (k := 7) (x := "_law_script") (CX := fun w => L2N.CX PySem.Challenge.rw_leftnumbers_k82_whole_which_squares.prog w) (sp := fun w => PL.spLaw _) rfl (by decide) rfl ⟨rfl, by decide, by decide⟩ (fun w h Y => PySem.W.kIn_of Y) ?F (fun _ _ a ns hl hB hO hS => ⟨a, ns, rfl, hS, hO, hl, hB, fun _ _ e => e⟩) (fun _ _ _ _ _ h => PL.cx_none h)
  case F =>
    intro w mg fa h KX G hmg
    refine' K82.all_mk KX G hmg ?pl_a0 ?pl_l0 ?pl_c0 ?pl_k0 ?pl_a1 ?pl_l1 ?pl_c1 ?pl_k1 ?pl_a2 ?pl_l2 ?pl_c2 ?pl_k2 ?pl_a3 ?pl_l3 ?pl_c3 ?pl_k3 ?pl_a4 ?pl_l4 ?pl_c4 ?pl_k4 ?pl_a5 ?pl_l5 ?pl_c5 ?pl_k5 ?pl_a6 ?pl_l6 ?pl_c6 ?pl_k6 ?pl_a7 ?pl_l7 ?pl_c7 ?pl_k7 ?pl_a8 ?pl_l8 ?pl_c8 ?pl_k8 ?pl_a9 ?pl_l9 ?pl_c9 ?pl_k9 ?pl_a10 ?pl_l10 ?pl_c10 ?pl_k10 ?pl_a11 ?pl_l11 ?pl_c11 ?pl_k11 ?pl_a12 ?pl_l12 ?pl_c12 ?pl_k12 ?pl_a13 ?pl_l13 ?pl_c13 ?pl_k13 ?pl_a14 ?pl_l14 ?pl_c14 ?pl_k14 ?pl_a15 ?pl_l15 ?pl_c15 ?pl_k15 ?pl_a16 ?pl_l16 ?pl_c16 ?pl_k16 ?pl_a17 ?pl_l17 ?pl_c17 ?pl_k17 ?pl_a18 ?pl_l18 ?pl_c18 ?pl_k18 ?pl_a19 ?pl_l19 ?pl_c19 ?pl_k19 ?pl_a20 ?pl_l20 ?pl_c20 ?pl_k20 ?pl_a21 ?pl_l21 ?pl_c21 ?pl_k21 ?pl_a22 ?pl_l22 ?pl_c22 ?pl_k22 ?pl_a23 ?pl_l23 ?pl_c23 ?pl_k23 ?pl_z0 ?pl_z1 ?pl_z2 ?pl_z3 ?pl_z4 ?pl_z5 ?pl_z6 ?pl_z7 ?pl_z8 ?pl_z9 ?pl_z10 ?pl_z11 ?pl_z12 ?pl_g0 ?pl_xa0 ?pl_xe0 ?pl_xk0 ?pl_xs0 ?pl_xt0 ?pl_xa1 ?pl_xe1 ?pl_xk1 ?pl_xs1 ?pl_xt1 ?pl_xa2 ?pl_xe2 ?pl_xk2 ?pl_xs2 ?pl_xt2
    (case pl_a0 => k_is)
    (case pl_l0 => k_is)
    (case pl_c0 => k_is)
    (case pl_k0 => k_is)
    (case pl_a1 => k_is)
    (case pl_l1 => k_is)
    (case pl_c1 => k_is)
    (case pl_k1 => k_is)
    (case pl_a2 => k_is)
    (case pl_l2 => k_is)
    (case pl_c2 => k_is)
    (case pl_k2 => k_is)
    (case pl_a3 => k_is)
    (case pl_l3 => k_is)
    (case pl_c3 => k_is)
    (case pl_k3 => k_is)
    (case pl_a4 => k_is)
    (case pl_l4 => k_is)
    (case pl_c4 => k_is)
    (case pl_k4 => k_is)
    (case pl_a5 => k_is)
    (case pl_l5 => k_is)
    (case pl_c5 => k_is)
    (case pl_k5 => k_is)
    (case pl_a6 => k_is)
    (case pl_l6 => k_is)
    (case pl_c6 => k_is)
    (case pl_k6 => k_is)
    (case pl_a7 => k_is)
    (case pl_l7 => k_is)
    (case pl_c7 => k_is)
    (case pl_k7 => k_is)
    (case pl_a8 => k_is)
    (case pl_l8 => k_is)
    (case pl_c8 => k_is)
    (case pl_k8 => k_is)
    (case pl_a9 => k_is)
    (case pl_l9 => k_is)
    (case pl_c9 => k_is)
    (case pl_k9 => k_is)
    (case pl_a10 => k_is)
    (case pl_l10 => k_is)
    (case pl_c10 => k_is)
    (case pl_k10 => k_is)
    (case pl_a11 => k_is)
    (case pl_l11 => k_is)
    (case pl_c11 => k_is)
    (case pl_k11 => k_is)
    (case pl_a12 => k_is)
    (case pl_l12 => k_is)
    (case pl_c12 => k_is)
    (case pl_k12 => k_is)
    (case pl_a13 => k_is)
    (case pl_l13 => k_is)
    (case pl_c13 => k_is)
    (case pl_k13 => k_is)
    (case pl_a14 => k_is)
    (case pl_l14 => k_is)
    (case pl_c14 => k_is)
    (case pl_k14 => k_is)
    (case pl_a15 => k_is)
    (case pl_l15 => k_is)
    (case pl_c15 => k_is)
    (case pl_k15 => k_is)
    (case pl_a16 => k_is)
    (case pl_l16 => k_is)
    (case pl_c16 => k_is)
    (case pl_k16 => k_is)
    (case pl_a17 => k_is)
    (case pl_l17 => k_is)
    (case pl_c17 => k_is)
    (case pl_k17 => k_is)
    (case pl_a18 => k_is)
    (case pl_l18 => k_is)
    (case pl_c18 => k_is)
    (case pl_k18 => k_is)
    (case pl_a19 => k_is)
    (case pl_l19 => k_is)
    (case pl_c19 => k_is)
    (case pl_k19 => k_is)
    (case pl_a20 => k_is)
    (case pl_l20 => k_is)
    (case pl_c20 => k_is)
    (case pl_k20 => k_is)
    (case pl_a21 => k_is)
    (case pl_l21 => k_is)
    (case pl_c21 => k_is)
    (case pl_k21 => k_is)
    (case pl_a22 => k_is)
    (case pl_l22 => k_is)
    (case pl_c22 => k_is)
    (case pl_k22 => k_is)
    (case pl_a23 => k_is)
    (case pl_l23 => k_is)
    (case pl_c23 => k_is)
    (case pl_k23 => k_is)
    (case pl_z0 => k_is)
    (case pl_z1 => k_is)
    (case pl_z2 => k_is)
    (case pl_z3 => k_is)
    (case pl_z4 => k_is)
    (case pl_z5 => k_is)
    (case pl_z6 => k_is)
    (case pl_z7 => k_is)
    (case pl_z8 => k_is)
    (case pl_z9 => k_is)
    (case pl_z10 => k_is)
    (case pl_z11 => k_is)
    (case pl_z12 => k_is)
    (case pl_g0 => k_is)
    (case pl_xa0 => k_is)
    (case pl_xe0 => k_exc)
    (case pl_xk0 => k_is)
    (case pl_xs0 => k_is)
    (case pl_xt0 => k_is)
    (case pl_xa1 => k_is)
    (case pl_xe1 => k_exc)
    (case pl_xk1 => k_is)
    (case pl_xs1 => k_is)
    (case pl_xt1 => k_is)
    (case pl_xa2 => k_is)
    (case pl_xe2 => k_exc)
    (case pl_xk2 => k_is)
    (case pl_xs2 => k_is)
    (case pl_xt2 => k_is)
