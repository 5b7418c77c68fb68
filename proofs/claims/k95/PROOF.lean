import PyProof.Rows.All
import Wide.All
import OpenK.AllK
import Wide.FinOn
import HandS.ForMost
import HandS.ForExc
import HandS.Wide
import HandS.WideBits
import HandS.WideMore
import HandS.IsInst
import HandS.CallSlots
import HandS.Rev
import HandS.TupAny
import HandS.Flow
import HandS.Defaults
import HandS.EndBits
import HandS.HotCalls
import HandS.ExcIs
import HandS.SuiteRaise
import PyProof.LongRange
import HandS.Deep
import HandS.Flt
import HandS.TryOnly
import HandS.Comp
import HandS.Conv
import HandS.SortInts
import HandS.TupLe
import KE.SortData
import KE.DataCmp
import HandS.TupMul
import HandS.Text
import HandS.StrMore
import HandS.TryElse
import PySem.Challenge.RW_leftnumbers_k95_whole_worked_out
set_option Elab.async false
set_option linter.all false
set_option maxRecDepth 100000
set_option autoImplicit false
namespace PL
open PySem PySem.Spec L2
open PyProof.Rows hiding St
/-- plain values -/
inductive PV where
  | non | bl (b : Bool) | int (i : Int) | str (s : Str)
  | tup (l : List PV) | lst (l : List PV) | frz (l : List PV) | dct
  | dt (l : List ((Int × Int) × Int)) | obj (C : Addr) (ns : List Str) (fs : List PV)
/-- what an evaluation comes to -/
inductive R (α : Type) where
  | ok (a : α) | exc (c : Str) | stuck
def R.bind {α β : Type} (x : R α) (k : α → R β) : R β := match x with
  | .ok a => k a | .exc c => .exc c | .stuck => .stuck
theorem R.bind_ok {α β : Type} (a : α) (k : α → R β) : (R.ok a).bind k = k a := rfl
theorem R.bind_exc {α β : Type} (c : Str) (k : α → R β) : (R.exc c : R α).bind k = .exc c := rfl
/-- a slot: nothing yet; a value that may be shared; a list that this def made and nobody else holds -/
inductive Slot where
  | un | val (p : PV) | own (l : List PV) | ex (a : Addr) | dd (a : Addr) (l : List ((Int × Int) × Int))
abbrev Rho := List Slot
/-- a written tuple, not a pair -/
def KT (K : PySem.W.Frag) (a : Addr) (xs : List V) : Prop :=
  ∃ (o : Obj) (its : Array Value) (n : Nat), K.lookup a = some o ∧ o.cls = .type "tuple" ∧ o.data = .seq its n ∧ its.size ≤ sizeLine ∧ Vals xs its.toList ∧ xs.length ≠ 2
theorem KT.sq {K : PySem.W.Frag} {H : Hp} {a : Addr} {xs : List V} (h : KT K a xs) : SqT K H a xs := by
  obtain ⟨o, its, n, h1, h2, h3, h4, h5, _⟩ := h
  exact .inr ⟨o, its, n, h1, h2, h3, h4, h5⟩
/-- a dict by pairs of whole numbers, as the heap has it -/
def encD (l : List ((Int × Int) × Int)) : List (List L2.Key × V) := l.map fun e => ([.inl e.1.1, .inl e.1.2], V.int e.2)
/-- a class of one's own whose instances are plain: what is known of it -/
structure ObjC (K : PySem.W.Frag) (C : Addr) : Prop where
  cl : Cls K C
  ha : PySem.W.findIn K (.ref C) "__class__" = some (some (.builtin "object.__class__"))
  hn : PySem.W.specialIn K (.builtin "object.__class__") "__get__" = some (some (.builtin "getset_descriptor.__get__"))
  ht : PySem.W.takesIn K (.builtin "object.__class__") = some true
  hm : PySem.W.mroIn K C (.type "object") = some true
  kit : ∀ n ∈ (["int", "bool", "str", "tuple", "list", "dict"] : List String), PySem.W.kitOne K (.ref C) (.type n) = some false
  na : ∀ f ∈ (["part", "one", "other", "n"] : List Str), PySem.W.findIn K (.ref C) f = some none
mutual
inductive Rep (K : PySem.W.Frag) (H : Hp) (O : Addr → Prop) : V → PV → Prop
  | non : Rep K H O .non .non
  | bl (b : Bool) : Rep K H O (.bl b) (.bl b)
  | int (i : Int) : Rep K H O (.int i) (.int i)
  | str (x : Str) : Rep K H O (.str x) (.str x)
  | lst {a : Addr} {xs : List V} {ps : List PV} : H a = some (.lst xs) → ¬ O a → Reps K H O xs ps → Rep K H O (.ref a) (.lst ps)
  | tup {a : Addr} {xs : List V} {ps : List PV} : (H a = some (.tup xs) ∧ ¬ O a ∨ KT K a xs) → Reps K H O xs ps → Rep K H O (.ref a) (.tup ps)
  | frz {a : Addr} {ns : List Int} : ((∃ o, H a = some (.frz o (.lst (ns.map V.int)))) ∧ ¬ O a ∨ ((∀ H', SqL K H' a (ns.map V.int)))) → Rep K H O (.ref a) (.frz (ns.map PV.int))
  | dct {a : Addr} {kvs : List (L2.Key × V)} : H a = some (.dK kvs) → ¬ O a → Rep K H O (.ref a) .dct
  | dt {a : Addr} {l : List ((Int × Int) × Int)} : H a = some (.dT (encD l)) → ¬ O a → Rep K H O (.ref a) (.dt l)
  | obj {a C dx : Addr} {fs : List (Str × V)} {ns : List Str} {ps : List PV} : H a = some (.ins C dx fs) → ¬ O a → fs.map (·.1) = ns → ObjC K C → Reps K H O (fs.map (·.2)) ps → Rep K H O (.ref a) (.obj C ns ps)
inductive Reps (K : PySem.W.Frag) (H : Hp) (O : Addr → Prop) : List V → List PV → Prop
  | nil : Reps K H O [] []
  | cons {v : V} {vs : List V} {p : PV} {ps : List PV} : Rep K H O v p → Reps K H O vs ps → Reps K H O (v :: vs) (p :: ps)
end
section
variable {K : PySem.W.Frag} {H H' : Hp} {O O' : Addr → Prop}
mutual
theorem Rep.mono (hk : ∀ a o, H a = some o → ¬ O a → H' a = some o ∧ ¬ O' a) : ∀ {v : V} {p : PV}, Rep K H O v p → Rep K H' O' v p
  | _, _, .non => .non
  | _, _, .bl b => .bl b
  | _, _, .int i => .int i
  | _, _, .str x => .str x
  | _, _, .lst h n r => .lst (hk _ _ h n).1 (hk _ _ h n).2 (Reps.mono hk r)
  | _, _, .tup (.inl ⟨h, n⟩) r => .tup (.inl ⟨(hk _ _ h n).1, (hk _ _ h n).2⟩) (Reps.mono hk r)
  | _, _, .tup (.inr h) r => .tup (.inr h) (Reps.mono hk r)
  | _, _, .frz (.inl ⟨⟨o, h⟩, n⟩) => .frz (.inl ⟨⟨o, (hk _ _ h n).1⟩, (hk _ _ h n).2⟩)
  | _, _, .frz (.inr h) => .frz (.inr h)
  | _, _, .dct h n => .dct (hk _ _ h n).1 (hk _ _ h n).2
  | _, _, .dt h n => .dt (hk _ _ h n).1 (hk _ _ h n).2
  | _, _, .obj h n e c r => .obj (hk _ _ h n).1 (hk _ _ h n).2 e c (Reps.mono hk r)
theorem Reps.mono (hk : ∀ a o, H a = some o → ¬ O a → H' a = some o ∧ ¬ O' a) : ∀ {v : List V} {p : List PV}, Reps K H O v p → Reps K H' O' v p
  | _, _, .nil => .nil
  | _, _, .cons h r => .cons (Rep.mono hk h) (Reps.mono hk r)
end
theorem Rep.same {v : V} {p : PV} (s : Same H H') (r : Rep K H O v p) : Rep K H' O v p := r.mono fun a o h n => ⟨s a o h, n⟩
theorem Reps.same {v : List V} {p : List PV} (s : Same H H') (r : Reps K H O v p) : Reps K H' O v p := r.mono fun a o h n => ⟨s a o h, n⟩
theorem Rep.less {v : V} {p : PV} (s : ∀ a, O' a → O a) (r : Rep K H O v p) : Rep K H O' v p := r.mono fun a o h n => ⟨h, fun z => n (s a z)⟩
theorem Reps.less {v : List V} {p : List PV} (s : ∀ a, O' a → O a) (r : Reps K H O v p) : Reps K H O' v p := r.mono fun a o h n => ⟨h, fun z => n (s a z)⟩
theorem Reps.length : ∀ {vs : List V} {ps : List PV}, Reps K H O vs ps → vs.length = ps.length
  | _, _, .nil => rfl
  | _, _, .cons _ r => by rw [List.length_cons, List.length_cons, Reps.length r]
theorem Reps.get : ∀ {vs : List V} {ps : List PV} {i : Nat} {p : PV}, Reps K H O vs ps → ps[i]? = some p → ∃ v, vs[i]? = some v ∧ Rep K H O v p
  | _, _, 0, _, .cons h _, e => ⟨_, rfl, by simp at e; exact e ▸ h⟩
  | _, _, i + 1, p, .cons _ r, e => by
    obtain ⟨v, h1, h2⟩ := Reps.get (i := i) (p := p) r (by simpa using e)
    exact ⟨v, by simpa using h1, h2⟩
theorem Reps.get' : ∀ {vs : List V} {ps : List PV} {i : Nat} {v : V}, Reps K H O vs ps → vs[i]? = some v → ∃ p, ps[i]? = some p ∧ Rep K H O v p
  | _, _, 0, _, .cons h _, e => ⟨_, rfl, by simp at e; exact e ▸ h⟩
  | _, _, i + 1, v, .cons _ r, e => by
    obtain ⟨p, h1, h2⟩ := Reps.get' (i := i) (v := v) r (by simpa using e)
    exact ⟨p, by simpa using h1, h2⟩
theorem Reps.append : ∀ {vs ws : List V} {ps qs : List PV}, Reps K H O vs ps → Reps K H O ws qs → Reps K H O (vs ++ ws) (ps ++ qs)
  | _, _, _, _, .nil, s => s
  | _, _, _, _, .cons h r, s => .cons h (Reps.append r s)
theorem Reps.take : ∀ {vs : List V} {ps : List PV} (n : Nat), Reps K H O vs ps → Reps K H O (vs.take n) (ps.take n)
  | _, _, 0, _ => .nil
  | _, _, _ + 1, .nil => .nil
  | _, _, n + 1, .cons h r => .cons h (Reps.take n r)
theorem Reps.drop : ∀ {vs : List V} {ps : List PV} (n : Nat), Reps K H O vs ps → Reps K H O (vs.drop n) (ps.drop n)
  | _, _, 0, r => r
  | _, _, _ + 1, .nil => .nil
  | _, _, n + 1, .cons _ r => Reps.drop n r
theorem Reps.set {v : V} {p : PV} (h : Rep K H O v p) : ∀ {vs : List V} {ps : List PV} (n : Nat), Reps K H O vs ps → Reps K H O (vs.set n v) (ps.set n p)
  | _, _, _, .nil => .nil
  | _, _, 0, .cons _ r => .cons h r
  | _, _, n + 1, .cons q r => .cons q (Reps.set h n r)
theorem Reps.reverse {vs : List V} {ps : List PV} (h : Reps K H O vs ps) : Reps K H O vs.reverse ps.reverse := by
  induction vs generalizing ps with
  | nil => cases h; exact .nil
  | cons v vs ih => cases h with
    | cons a r => rw [List.reverse_cons, List.reverse_cons]; exact (ih r).append (.cons a .nil)
theorem Reps.dropLast {vs : List V} {ps : List PV} (h : Reps K H O vs ps) : Reps K H O vs.dropLast ps.dropLast := by
  rw [List.dropLast_eq_take, List.dropLast_eq_take, h.length]; exact h.take _
theorem Reps.ints : ∀ {ns : List Int} {vs : List V}, Reps K H O vs (ns.map PV.int) → vs = ns.map V.int
  | [], _, .nil => rfl
  | n :: ns, _, .cons h r => by cases h; rw [Reps.ints r]; rfl
theorem Reps.ofInts : ∀ (ns : List Int), Reps K H O (ns.map V.int) (ns.map PV.int)
  | [] => .nil
  | n :: ns => .cons (.int n) (Reps.ofInts ns)
theorem Reps.bls : ∀ {ns : List Bool} {vs : List V}, Reps K H O vs (ns.map PV.bl) → vs = ns.map V.bl
  | [], _, .nil => rfl
  | n :: ns, _, .cons h r => by cases h; rw [Reps.bls r]; rfl
end
/-- the addresses that nobody else may hold: those from outside, those of the slots -/
def OO (O0 : Addr → Prop) (σ : St) (ρ : Rho) : Addr → Prop := fun a => O0 a ∨ ∃ (i : Nat) (ps : List PV), ρ[i]? = some (.own ps) ∧ σ[i]? = some (some (.ref a))
structure StR (K : PySem.W.Frag) (H0 : Hp) (O0 : Addr → Prop) (H : Hp) (σ : St) (ρ : Rho) : Prop where
  len : σ.length = ρ.length
  same : Same H0 H
  all0 : ∀ a, O0 a → H a ≠ none
  own : ∀ (i : Nat) (ps : List PV), ρ[i]? = some (.own ps) → ∃ (a : Addr) (vs : List V), σ[i]? = some (some (.ref a)) ∧ H a = some (.lst vs) ∧ H0 a = none ∧ ¬ O0 a ∧ Reps K H (OO O0 σ ρ) vs ps
  dis : ∀ (i j : Nat) (a : Addr) (ps qs : List PV), ρ[i]? = some (.own ps) → ρ[j]? = some (.own qs) → σ[i]? = some (some (.ref a)) → σ[j]? = some (some (.ref a)) → i = j
  val : ∀ (i : Nat) (p : PV), ρ[i]? = some (.val p) → ∃ (v : V), σ[i]? = some (some v) ∧ Rep K H (OO O0 σ ρ) v p
  exs : ∀ (i : Nat) (a : Addr), ρ[i]? = some (.ex a) → σ[i]? = some (some (.ref a))
  dds : ∀ (i : Nat) (a : Addr) (l : List ((Int × Int) × Int)), ρ[i]? = some (.dd a l) → σ[i]? = some (some (.ref a)) ∧ H a = some (.dT (encD l)) ∧ O0 a ∧ H0 a = none
def DdOk (H0 : Hp) (O0 : Addr → Prop) (H : Hp) (σ : St) (ρ : Rho) : Prop := ∀ (i : Nat) (a : Addr) (l : List ((Int × Int) × Int)), ρ[i]? = some (.dd a l) → σ[i]? = some (some (.ref a)) ∧ H a = some (.dT (encD l)) ∧ O0 a ∧ H0 a = none
theorem dds_later {H0 H H' : Hp} {O0 : Addr → Prop} {σ : St} {ρ : Rho} (h : DdOk H0 O0 H σ ρ) (k : ∀ a l, H a = some (.dT l) → H' a = some (.dT l)) : DdOk H0 O0 H' σ ρ := fun i a l e => by
  obtain ⟨e1, e2, e3, e4⟩ := h i a l e
  exact ⟨e1, k _ _ e2, e3, e4⟩
theorem dds_set {H0 H : Hp} {O0 : Addr → Prop} {σ : St} {ρ : Rho} (h : DdOk H0 O0 H σ ρ) {i : Nat} {v : Option V} {s : Slot} (hs : ∀ a l, s ≠ .dd a l) : DdOk H0 O0 H (σ.set i v) (ρ.set i s) := fun j a l e => by
  by_cases q : i = j
  · subst q
    by_cases hi : i < ρ.length
    · rw [List.getElem?_set_self hi] at e
      exact absurd (Option.some.inj e) (hs a l)
    · rw [List.getElem?_eq_none (by rw [List.length_set]; omega)] at e; cases e
  · rw [List.getElem?_set_ne q] at e ⊢
    exact h j a l e
theorem dds_setR {H0 H : Hp} {O0 : Addr → Prop} {σ : St} {ρ : Rho} (h : DdOk H0 O0 H σ ρ) {i : Nat} {s : Slot} (hs : ∀ a l, s ≠ .dd a l) : DdOk H0 O0 H σ (ρ.set i s) := fun j a l e => by
  by_cases q : i = j
  · subst q
    by_cases hi : i < ρ.length
    · rw [List.getElem?_set_self hi] at e
      exact absurd (Option.some.inj e) (hs a l)
    · rw [List.getElem?_eq_none (by rw [List.length_set]; omega)] at e; cases e
  · rw [List.getElem?_set_ne q] at e
    exact h j a l e
theorem exs_set {σ : St} {ρ : Rho} (hl : σ.length = ρ.length) (h : ∀ (i : Nat) (a : Addr), ρ[i]? = some (.ex a) → σ[i]? = some (some (.ref a))) {i : Nat} {v : Option V} {s : Slot} (hs : ∀ a, s = .ex a → v = some (.ref a)) : ∀ (j : Nat) (a : Addr), (ρ.set i s)[j]? = some (.ex a) → (σ.set i v)[j]? = some (some (.ref a)) := fun j a e => by
  by_cases q : i = j
  · subst q
    by_cases hi : i < ρ.length
    · rw [List.getElem?_set_self hi] at e
      rw [List.getElem?_set_self (by rw [hl]; exact hi), hs a (Option.some.inj e)]
    · rw [List.getElem?_eq_none (by rw [List.length_set]; omega)] at e; cases e
  · rw [List.getElem?_set_ne q] at e ⊢
    exact h j a e
theorem exs_setR {σ : St} {ρ : Rho} (h : ∀ (i : Nat) (a : Addr), ρ[i]? = some (.ex a) → σ[i]? = some (some (.ref a))) {i : Nat} {s : Slot} (hs : ∀ a, s ≠ .ex a) : ∀ (j : Nat) (a : Addr), (ρ.set i s)[j]? = some (.ex a) → σ[j]? = some (some (.ref a)) := fun j a e => by
  by_cases q : i = j
  · subst q
    by_cases hi : i < ρ.length
    · rw [List.getElem?_set_self hi] at e
      exact absurd (Option.some.inj e) (hs a)
    · rw [List.getElem?_eq_none (by rw [List.length_set]; omega)] at e; cases e
  · rw [List.getElem?_set_ne q] at e
    exact h j a e
section
variable {K : PySem.W.Frag} {H0 H H' : Hp} {O0 : Addr → Prop} {σ : St} {ρ : Rho}
theorem StR.there (S : StR K H0 O0 H σ ρ) {a : Addr} (h : OO O0 σ ρ a) : H a ≠ none := by
  rcases h with h | ⟨i, ps, h1, h2⟩
  · exact S.all0 a h
  · obtain ⟨b, vs, e1, e2, _⟩ := S.own i ps h1
    rw [h2] at e1; cases e1
    rw [e2]; exact fun z => nomatch z
theorem StR.step (S : StR K H0 O0 H σ ρ) (s : Same H H') : StR K H0 O0 H' σ ρ :=
  ⟨S.len, S.same.trans s, fun a h z => S.all0 a h (s.free z), fun i ps h => let ⟨a, vs, e1, e2, e3, e5, e4⟩ := S.own i ps h; ⟨a, vs, e1, s _ _ e2, e3, e5, e4.same s⟩, S.dis, fun i p h => let ⟨v, e1, e2⟩ := S.val i p h; ⟨v, e1, e2.same s⟩, S.exs, dds_later S.dds fun _ _ e => s _ _ e⟩
theorem OO.set_val {i : Nat} {v : Option V} {s : Slot} (hs : ∀ ps, s ≠ .own ps) {a : Addr} (h : OO O0 (σ.set i v) (ρ.set i s) a) : OO O0 σ ρ a := by
  rcases h with h | ⟨j, ps, h1, h2⟩
  · exact .inl h
  · by_cases e : i = j
    · subst e
      by_cases hl : i < ρ.length
      · rw [List.getElem?_set_self hl] at h1; exact absurd (Option.some.inj h1) (hs ps)
      · rw [List.getElem?_eq_none (by rw [List.length_set]; omega)] at h1; cases h1
    · rw [List.getElem?_set_ne e] at h1 h2
      exact .inr ⟨j, ps, h1, h2⟩
/-- a slot is set to a shared value (or emptied) -/
theorem StR.set (S : StR K H0 O0 H σ ρ) {i : Nat} {v : Option V} {s : Slot} (hs : ∀ ps, s ≠ .own ps) (hv : ∀ p, s = .val p → ∃ w, v = some w ∧ Rep K H (OO O0 σ ρ) w p) (hx : ∀ a, s = .ex a → v = some (.ref a) := by intro _ z; cases z) (hd : ∀ a l, s ≠ .dd a l := by intro _ _ z; cases z) : StR K H0 O0 H (σ.set i v) (ρ.set i s) := by
  have less : ∀ a, OO O0 (σ.set i v) (ρ.set i s) a → OO O0 σ ρ a := fun a h => OO.set_val hs h
  refine ⟨by rw [List.length_set, List.length_set, S.len], S.same, S.all0, fun j ps h => ?_, fun j k a ps qs h1 h2 h3 h4 => ?_, fun j p h => ?_, exs_set S.len S.exs hx, dds_set S.dds hd⟩
  · by_cases e : i = j
    · subst e
      by_cases hl : i < ρ.length
      · rw [List.getElem?_set_self hl] at h; exact absurd (Option.some.inj h) (hs ps)
      · rw [List.getElem?_eq_none (by rw [List.length_set]; omega)] at h; cases h
    · rw [List.getElem?_set_ne e] at h
      obtain ⟨a, vs, e1, e2, e3, e5, e4⟩ := S.own j ps h
      exact ⟨a, vs, by rw [List.getElem?_set_ne e]; exact e1, e2, e3, e5, e4.less less⟩
  · have go : ∀ {j : Nat} {ps : List PV}, (ρ.set i s)[j]? = some (.own ps) → i ≠ j := fun {j ps} h e => by
      subst e
      by_cases hl : i < ρ.length
      · rw [List.getElem?_set_self hl] at h; exact absurd (Option.some.inj h) (hs ps)
      · rw [List.getElem?_eq_none (by rw [List.length_set]; omega)] at h; cases h
    have e1 := go h1
    have e2 := go h2
    rw [List.getElem?_set_ne e1] at h1 h3
    rw [List.getElem?_set_ne e2] at h2 h4
    exact S.dis j k a ps qs h1 h2 h3 h4
  · by_cases e : i = j
    · subst e
      by_cases hl : i < ρ.length
      · rw [List.getElem?_set_self hl] at h
        obtain ⟨w, e1, e2⟩ := hv p (Option.some.inj h)
        exact ⟨w, by rw [List.getElem?_set_self (by rw [S.len]; exact hl), e1], e2.less less⟩
      · rw [List.getElem?_eq_none (by rw [List.length_set]; omega)] at h; cases h
    · rw [List.getElem?_set_ne e] at h
      obtain ⟨w, e1, e2⟩ := S.val j p h
      exact ⟨w, by rw [List.getElem?_set_ne e]; exact e1, e2.less less⟩
/-- a slot is set to a list that is new -/
theorem StR.setOwn (S : StR K H0 O0 H σ ρ) (s : Same H H') {i : Nat} {a : Addr} {vs : List V} {ps : List PV} (hn : H a = none) (ha : H' a = some (.lst vs)) (hr : Reps K H' (fun b => OO O0 σ ρ b ∨ b = a) vs ps) :
    StR K H0 O0 H' (σ.set i (some (.ref a))) (ρ.set i (.own ps)) := by
  have less : ∀ b, OO O0 (σ.set i (some (.ref a))) (ρ.set i (.own ps)) b → OO O0 σ ρ b ∨ b = a := fun b h => by
    rcases h with h | ⟨j, qs, h1, h2⟩
    · exact .inl (.inl h)
    · by_cases e : i = j
      · subst e
        by_cases hl : i < σ.length
        · rw [List.getElem?_set_self hl] at h2; cases h2; exact .inr rfl
        · rw [List.getElem?_eq_none (by rw [List.length_set]; omega)] at h2; cases h2
      · rw [List.getElem?_set_ne e] at h1 h2
        exact .inl (.inr ⟨j, qs, h1, h2⟩)
  have h0 : H0 a = none := S.same.free hn
  have nota : ∀ {b : Addr} {o : HO}, H b = some o → b ≠ a := fun hb z => by rw [z, hn] at hb; cases hb
  have keep : ∀ {v : V} {p : PV}, Rep K H (OO O0 σ ρ) v p → Rep K H' (OO O0 (σ.set i (some (.ref a))) (ρ.set i (.own ps))) v p := fun r => r.mono fun b o hb nb => ⟨s b o hb, fun z => (less b z).elim nb (nota hb)⟩
  have keeps : ∀ {v : List V} {p : List PV}, Reps K H (OO O0 σ ρ) v p → Reps K H' (OO O0 (σ.set i (some (.ref a))) (ρ.set i (.own ps))) v p := fun r => r.mono fun b o hb nb => ⟨s b o hb, fun z => (less b z).elim nb (nota hb)⟩
  refine ⟨by rw [List.length_set, List.length_set, S.len], S.same.trans s, fun a h z => S.all0 a h (s.free z), fun j qs h => ?_, fun j k b qs rs h1 h2 h3 h4 => ?_, fun j p h => ?_, exs_set S.len S.exs fun _ z => (nomatch z), dds_set (dds_later S.dds fun _ _ e => s _ _ e) fun _ _ z => (nomatch z)⟩
  · by_cases e : i = j
    · subst e
      by_cases hl : i < ρ.length
      · rw [List.getElem?_set_self hl] at h; cases h
        exact ⟨a, vs, by rw [List.getElem?_set_self (by rw [S.len]; exact hl)], ha, h0, fun z => S.all0 a z hn, hr.less less⟩
      · rw [List.getElem?_eq_none (by rw [List.length_set]; omega)] at h; cases h
    · rw [List.getElem?_set_ne e] at h
      obtain ⟨b, ws, e1, e2, e3, e5, e4⟩ := S.own j qs h
      exact ⟨b, ws, by rw [List.getElem?_set_ne e]; exact e1, s _ _ e2, e3, e5, keeps e4⟩
  · have other : ∀ {j : Nat} {qs : List PV} {b : Addr}, i ≠ j → (ρ.set i (.own ps))[j]? = some (.own qs) → (σ.set i (some (.ref a)))[j]? = some (some (.ref b)) → b ≠ a := fun {j qs b} e h1 h3 z => by
      rw [List.getElem?_set_ne e] at h1 h3
      obtain ⟨c, ws, e1, e2, _⟩ := S.own j qs h1
      rw [h3] at e1; cases e1
      exact nota e2 z
    have self : ∀ {j : Nat} {b : Addr}, i = j → (σ.set i (some (.ref a)))[j]? = some (some (.ref b)) → b = a := fun {j b} e h3 => by
      subst e
      by_cases hl : i < σ.length
      · rw [List.getElem?_set_self hl] at h3; cases h3; rfl
      · rw [List.getElem?_eq_none (by rw [List.length_set]; omega)] at h3; cases h3
    by_cases e1 : i = j
    · by_cases e2 : i = k
      · exact e1.symm.trans e2
      · exact absurd (self e1 h3) (other e2 h2 h4)
    · by_cases e2 : i = k
      · exact absurd (self e2 h4) (other e1 h1 h3)
      · rw [List.getElem?_set_ne e1] at h1 h3
        rw [List.getElem?_set_ne e2] at h2 h4
        exact S.dis j k b qs rs h1 h2 h3 h4
  · by_cases e : i = j
    · subst e
      by_cases hl : i < ρ.length
      · rw [List.getElem?_set_self hl] at h; cases h
      · rw [List.getElem?_eq_none (by rw [List.length_set]; omega)] at h; cases h
    · rw [List.getElem?_set_ne e] at h
      obtain ⟨w, e1, e2⟩ := S.val j p h
      exact ⟨w, by rw [List.getElem?_set_ne e]; exact e1, keep e2⟩
/-- an owned list is changed -/
theorem StR.write (S : StR K H0 O0 H σ ρ) {i : Nat} {a : Addr} {ps qs : List PV} {ws : List V} (h1 : ρ[i]? = some (.own ps)) (h2 : σ[i]? = some (some (.ref a))) (hr : Reps K H (OO O0 σ ρ) ws qs) :
    StR K H0 O0 (upd H a (.lst ws)) σ (ρ.set i (.own qs)) := by
  have hi : i < ρ.length := (List.getElem?_eq_some_iff.mp h1).1
  have oeq : ∀ b, OO O0 σ (ρ.set i (.own qs)) b ↔ OO O0 σ ρ b := fun b => by
    constructor
    · rintro (h | ⟨j, rs, e1, e2⟩)
      · exact .inl h
      · by_cases e : i = j
        · subst e; exact .inr ⟨i, ps, h1, e2⟩
        · rw [List.getElem?_set_ne e] at e1; exact .inr ⟨j, rs, e1, e2⟩
    · rintro (h | ⟨j, rs, e1, e2⟩)
      · exact .inl h
      · by_cases e : i = j
        · subst e; exact .inr ⟨i, qs, List.getElem?_set_self hi, e2⟩
        · exact .inr ⟨j, rs, by rw [List.getElem?_set_ne e]; exact e1, e2⟩
  have hO : OO O0 σ ρ a := .inr ⟨i, ps, h1, h2⟩
  have hk : ∀ b o, H b = some o → ¬ OO O0 σ ρ b → upd H a (.lst ws) b = some o ∧ ¬ OO O0 σ (ρ.set i (.own qs)) b := fun b o hb nb =>
    ⟨by rw [upd_ne (fun z => nb (by rw [z]; exact hO))]; exact hb, fun z => nb ((oeq b).mp z)⟩
  obtain ⟨a', vs, e1, e2, e3, e5, _⟩ := S.own i ps h1
  rw [h2] at e1; cases e1
  refine ⟨by rw [List.length_set, S.len], fun b o hb => ?_, fun b hb => ?_, fun j rs h => ?_, fun j k b rs ts g1 g2 g3 g4 => ?_, fun j p h => ?_, exs_setR S.exs fun _ z => (nomatch z), dds_setR (dds_later S.dds fun b l e => by rw [upd_ne (fun z => by rw [z, e2] at e; cases e)]; exact e) fun _ _ z => (nomatch z)⟩
  · rw [upd_ne (fun z => by rw [z, e3] at hb; cases hb)]; exact S.same b o hb
  · by_cases e : b = a
    · rw [e, upd_same]; exact fun z => nomatch z
    · rw [upd_ne e]; exact S.all0 b hb
  · by_cases e : i = j
    · subst e
      rw [List.getElem?_set_self hi] at h; cases h
      exact ⟨a, ws, h2, upd_same, e3, e5, hr.mono hk⟩
    · rw [List.getElem?_set_ne e] at h
      obtain ⟨b, us, f1, f2, f3, f5, f4⟩ := S.own j rs h
      exact ⟨b, us, f1, by rw [upd_ne (fun z => e (S.dis i j a ps rs h1 h h2 (by rw [← z]; exact f1)))]; exact f2, f3, f5, f4.mono hk⟩
  · have go : ∀ {j : Nat} {rs : List PV}, (ρ.set i (.own qs))[j]? = some (.own rs) → ∃ rs', ρ[j]? = some (.own rs') := fun {j rs} h => by
      by_cases e : i = j
      · subst e; exact ⟨_, h1⟩
      · rw [List.getElem?_set_ne e] at h; exact ⟨_, h⟩
    obtain ⟨_, f1⟩ := go g1
    obtain ⟨_, f2⟩ := go g2
    exact S.dis j k b _ _ f1 f2 g3 g4
  · by_cases e : i = j
    · subst e
      rw [List.getElem?_set_self hi] at h; cases h
    · rw [List.getElem?_set_ne e] at h
      obtain ⟨w, f1, f2⟩ := S.val j p h
      exact ⟨w, f1, f2.mono hk⟩
/-- an owned list is let go: it is shared from now on -/
theorem StR.freeze (S : StR K H0 O0 H σ ρ) {i : Nat} {ps : List PV} (h1 : ρ[i]? = some (.own ps)) : StR K H0 O0 H σ (ρ.set i (.val (.lst ps))) := by
  have hi : i < ρ.length := (List.getElem?_eq_some_iff.mp h1).1
  obtain ⟨a, vs, e1, e2, e3, e5, e4⟩ := S.own i ps h1
  have hs : σ.set i (some (.ref a)) = σ := by
    refine List.ext_getElem? fun j => ?_
    by_cases e : i = j
    · subst e; rw [List.getElem?_set_self (by rw [S.len]; exact hi), e1]
    · rw [List.getElem?_set_ne e]
  have less : ∀ b, OO O0 σ (ρ.set i (.val (.lst ps))) b → OO O0 σ ρ b := fun b h => by
    rw [← hs] at h
    exact OO.set_val (fun _ z => Slot.noConfusion z) h
  have na : ¬ OO O0 σ (ρ.set i (.val (.lst ps))) a := by
    rintro (h | ⟨j, rs, f1, f2⟩)
    · exact e5 h
    · by_cases e : i = j
      · subst e
        rw [List.getElem?_set_self hi] at f1; cases f1
      · rw [List.getElem?_set_ne e] at f1
        exact e (S.dis i j a ps rs h1 f1 e1 f2)
  refine ⟨by rw [List.length_set, S.len], S.same, S.all0, fun j rs h => ?_, fun j k b rs ts g1 g2 g3 g4 => ?_, fun j p h => ?_, exs_setR S.exs fun _ z => (nomatch z), dds_setR S.dds fun _ _ z => (nomatch z)⟩
  · by_cases e : i = j
    · subst e
      rw [List.getElem?_set_self hi] at h; cases h
    · rw [List.getElem?_set_ne e] at h
      obtain ⟨b, us, f1, f2, f3, f5, f4⟩ := S.own j rs h
      exact ⟨b, us, f1, f2, f3, f5, f4.less less⟩
  · have go : ∀ {j : Nat} {rs : List PV}, (ρ.set i (.val (.lst ps)))[j]? = some (.own rs) → ρ[j]? = some (.own rs) := fun {j rs} h => by
      by_cases e : i = j
      · subst e; rw [List.getElem?_set_self hi] at h; cases h
      · rw [List.getElem?_set_ne e] at h; exact h
    exact S.dis j k b _ _ (go g1) (go g2) g3 g4
  · by_cases e : i = j
    · subst e
      rw [List.getElem?_set_self hi] at h; cases h
      exact ⟨.ref a, e1, .lst e2 na (e4.less less)⟩
    · rw [List.getElem?_set_ne e] at h
      obtain ⟨w, f1, f2⟩ := S.val j p h
      exact ⟨w, f1, f2.less less⟩
end
end PL
set_option Elab.async false
set_option linter.all false
set_option maxRecDepth 100000
set_option autoImplicit false
namespace PL
open PySem PySem.Spec L2
open PyProof.Rows hiding St
/-- how a result stands: s: apart from the owned lists; t: it may be an owned list itself; f: a list that is new; w: apart from the outer addresses alone -/
inductive Md where
  | s | t | f | w
def RepM (K : PySem.W.Frag) (O0 : Addr → Prop) (σ : St) (ρ : Rho) : Md → Hp → Hp → V → PV → Prop
  | .s, _, H', v, p => Rep K H' (OO O0 σ ρ) v p
  | .t, _, H', v, p => Rep K H' (OO O0 σ ρ) v p ∨ ∃ a vs ps, v = .ref a ∧ p = .lst ps ∧ H' a = some (.lst vs) ∧ Reps K H' (OO O0 σ ρ) vs ps
  | .f, H, H', v, p => ∃ a vs ps, v = .ref a ∧ p = .lst ps ∧ H a = none ∧ H' a = some (.lst vs) ∧ Reps K H' (fun b => OO O0 σ ρ b ∨ b = a) vs ps
  | .w, _, H', v, p => Rep K H' O0 v p
section
variable {K : PySem.W.Frag} {H0 H H1 H2 : Hp} {O0 : Addr → Prop} {σ : St} {ρ : Rho} {v : V} {p : PV} {m : Md}
theorem RepM.step (r : RepM K O0 σ ρ m H H1 v p) (s : Same H1 H2) : RepM K O0 σ ρ m H H2 v p := by
  cases m with
  | s => exact Rep.same s r
  | t =>
    rcases r with r | ⟨a, vs, ps, e1, e2, e3, e4⟩
    · exact .inl (r.same s)
    · exact .inr ⟨a, vs, ps, e1, e2, s _ _ e3, e4.same s⟩
  | f => obtain ⟨a, vs, ps, e1, e2, e3, e4, e5⟩ := r; exact ⟨a, vs, ps, e1, e2, e3, s _ _ e4, e5.same s⟩
  | w => exact Rep.same s r
theorem RepM.back (s : Same H H1) (r : RepM K O0 σ ρ m H1 H2 v p) : RepM K O0 σ ρ m H H2 v p := by
  cases m with
  | s => exact r
  | t => exact r
  | f => obtain ⟨a, vs, ps, e1, e2, e3, e4, e5⟩ := r; exact ⟨a, vs, ps, e1, e2, s.free e3, e4, e5⟩
  | w => exact r
theorem RepM.f_s (S : StR K H0 O0 H σ ρ) (r : RepM K O0 σ ρ .f H H1 v p) : RepM K O0 σ ρ .s H H1 v p := by
  obtain ⟨a, vs, ps, rfl, rfl, e3, e4, e5⟩ := r
  exact .lst e4 (fun z => S.there z e3) (e5.less fun _ z => .inl z)
theorem RepM.s_w (r : RepM K O0 σ ρ .s H H1 v p) : RepM K O0 σ ρ .w H H1 v p := Rep.less (fun _ z => .inl z) r
theorem RepM.s_t (r : RepM K O0 σ ρ .s H H1 v p) : RepM K O0 σ ρ .t H H1 v p := .inl r
end
/-- what an expression's end must bring -/
def Got (K : PySem.W.Frag) (mg : Str → Option Value) (W : WX) (O0 : Addr → Prop) (σ : St) (ρ : Rho) (m : Md) (H : Hp) (Q : VK) : R PV → Prop
  | .ok p => ∀ v H', Same H H' → RepM K O0 σ ρ m H H' v p → Q v H'
  | .exc c => ∀ C H', Same H H' → mg c = some (.ref C) → W (.ref C) none σ H'
  | .stuck => False
def GotT (mg : Str → Option Value) (W : WX) (σ : St) (H : Hp) (Q : Bool → Hp → Prop) : R Bool → Prop
  | .ok b => ∀ H', Same H H' → Q b H'
  | .exc c => ∀ C H', Same H H' → mg c = some (.ref C) → W (.ref C) none σ H'
  | .stuck => False
def GotA (K : PySem.W.Frag) (mg : Str → Option Value) (W : WX) (O0 : Addr → Prop) (σ : St) (ρ : Rho) (m : Md) (H : Hp) (Q : List V → Hp → Prop) : R (List PV) → Prop
  | .ok ps => ∀ vs H', Same H H' → Paired (RepM K O0 σ ρ m H H') vs ps → Q vs H'
  | .exc c => ∀ C H', Same H H' → mg c = some (.ref C) → W (.ref C) none σ H'
  | .stuck => False
def tE (K : PySem.W.Frag) (mg : Str → Option Value) (W : WX) (m : Md) (f : Rho → R PV) : TE := fun σ H Q =>
  ∃ H0 O0 ρ, StR K H0 O0 H σ ρ ∧ Got K mg W O0 σ ρ m H Q (f ρ)
def tT (K : PySem.W.Frag) (mg : Str → Option Value) (W : WX) (f : Rho → R Bool) : TT := fun σ H Q =>
  ∃ H0 O0 ρ, StR K H0 O0 H σ ρ ∧ GotT mg W σ H Q (f ρ)
def tA (K : PySem.W.Frag) (mg : Str → Option Value) (W : WX) (m : Md) (f : Rho → R (List PV)) : TA := fun σ H Q =>
  ∃ H0 O0 ρ, StR K H0 O0 H σ ρ ∧ GotA K mg W O0 σ ρ m H Q (f ρ)
abbrev EJ (X : Cx) (W : WX) (m : Md) (e : Expr) (f : Rho → R PV) : Prop := PE X e (tE X.K X.mg W m f)
abbrev TJ (X : Cx) (W : WX) (e : Expr) (f : Rho → R Bool) : Prop := PT X e (tT X.K X.mg W f)
abbrev AJ (X : Cx) (W : WX) (m : Md) (es : List Expr) (f : Rho → R (List PV)) : Prop := PA X es (tA X.K X.mg W m f)
section
variable {X : Cx} {e a b : Expr} {pos : Pos}
theorem pe_imp {t t' : TE} (h : PE X e t) (q : ∀ σ H Q, t' σ H Q → t σ H Q) : PE X e t' := ⟨fun pins s σ H Q I hw => h.run pins s σ H Q I (q σ H Q hw)⟩
theorem pt_imp {t t' : TT} (h : PT X e t) (q : ∀ σ H Q, t' σ H Q → t σ H Q) : PT X e t' := ⟨fun pins s σ H Q I hw => h.run pins s σ H Q I (q σ H Q hw)⟩
theorem pw_imp {t t' : TT} (h : PW X e t) (q : ∀ σ H Q, t' σ H Q → t σ H Q) : PW X e t' := ⟨fun wh pins s σ H Q I hw => h.run wh pins s σ H Q I (q σ H Q hw)⟩
theorem pa_imp {es : List Expr} {t t' : TA} (h : PA X es t) (q : ∀ σ H Q, t' σ H Q → t σ H Q) : PA X es t' := ⟨fun pos pins s σ H Q I hw => h.run pos pins s σ H Q I (q σ H Q hw)⟩
end
section
variable {K : PySem.W.Frag} {mg : Str → Option Value} {W : WX} {H0 H H1 H2 : Hp} {O0 : Addr → Prop} {σ : St} {ρ : Rho} {m m1 m2 : Md}
/-- from a later heap -/
theorem Got.later {x : R PV} {Q : VK} (s : Same H H1) (h : Got K mg W O0 σ ρ m H Q x) : Got K mg W O0 σ ρ m H1 Q x := by
  cases x with
  | ok p => exact fun v H' s' r => h v H' (s.trans s') (r.back s)
  | exc c => exact fun C H' s' e => h C H' (s.trans s') e
  | stuck => exact h
theorem GotT.later {x : R Bool} {Q : Bool → Hp → Prop} (s : Same H H1) (h : GotT mg W σ H Q x) : GotT mg W σ H1 Q x := by
  cases x with
  | ok p => exact fun H' s' => h H' (s.trans s')
  | exc c => exact fun C H' s' e => h C H' (s.trans s') e
  | stuck => exact h
end
def eC (p : PV) : Rho → R PV := fun _ => .ok p
def eV (i : Nat) : Rho → R PV := fun ρ => match ρ[i]? with
  | some (.val p) => .ok p
  | _ => .stuck
def eVo (i : Nat) : Rho → R PV := fun ρ => match ρ[i]? with
  | some (.val p) => .ok p
  | some (.own ps) => .ok (.lst ps)
  | _ => .stuck
section
variable {X : Cx} {W : WX} {e a b c : Expr} {pos : Pos} {m m1 m2 m3 : Md} {f g h : Rho → R PV}
theorem e_const {v : V} {p : PV} (hp : PE X e (tC v)) (hr : ∀ K H O, Rep K H O v p) : EJ X W .s e (eC p) := by
  refine pe_imp hp fun σ H Q ⟨H0, O0, ρ, S, G⟩ => ?_
  exact G v H (Same.refl H) (hr _ _ _)
theorem e_int {i : Int} {j : Nat} : EJ X W .s (.Constant (.int i) j pos) (eC (.int i)) := e_const pe_int fun _ _ _ => .int i
theorem e_bl {k : Bool} {j : Nat} : EJ X W .s (.Constant (.bool k) j pos) (eC (.bl k)) := e_const pe_bl fun _ _ _ => .bl k
theorem e_non {j : Nat} : EJ X W .s (.Constant .none j pos) (eC .non) := e_const pe_non fun _ _ _ => .non
theorem e_s_t (h : EJ X W .s e f) : EJ X W .t e f := by
  refine pe_imp h fun σ H Q ⟨H0, O0, ρ, S, G⟩ => ⟨H0, O0, ρ, S, ?_⟩
  revert G
  cases f ρ with
  | ok p => exact fun G v H' s r => G v H' s (RepM.s_t (H := H) r)
  | exc c => exact id
  | stuck => exact id
theorem e_f_s (h : EJ X W .f e f) : EJ X W .s e f := by
  refine pe_imp h fun σ H Q ⟨H0, O0, ρ, S, G⟩ => ⟨H0, O0, ρ, S, ?_⟩
  revert G
  cases f ρ with
  | ok p => exact fun G v H' s r => G v H' s (RepM.f_s S r)
  | exc c => exact id
  | stuck => exact id
theorem e_f_t (h : EJ X W .f e f) : EJ X W .t e f := e_s_t (e_f_s h)
theorem eVar_get {K : PySem.W.Frag} {H0 H : Hp} {O0 : Addr → Prop} {σ : St} {ρ : Rho} (S : StR K H0 O0 H σ ρ) {i : Nat} {p : PV} (h : eV i ρ = .ok p) : ∃ v, σ[i]? = some (some v) ∧ Rep K H (OO O0 σ ρ) v p := by
  unfold eV at h
  split at h
  · rename_i q hq
    cases h
    exact S.val i _ hq
  · cases h
theorem e_var {i : Nat} (hp : PE X e (tVar i)) : EJ X W .s e (eV i) := by
  refine pe_imp hp fun σ H Q ⟨H0, O0, ρ, S, G⟩ => ?_
  revert G
  cases hv : eV i ρ with
  | ok p =>
    intro G
    obtain ⟨v, e1, e2⟩ := eVar_get S hv
    exact ⟨v, e1, G v H (Same.refl H) e2⟩
  | exc c => unfold eV at hv; split at hv <;> cases hv
  | stuck => exact False.elim
theorem eVo_get {K : PySem.W.Frag} {H0 H : Hp} {O0 : Addr → Prop} {σ : St} {ρ : Rho} (S : StR K H0 O0 H σ ρ) {i : Nat} {p : PV} (h : eVo i ρ = .ok p) : ∃ v, σ[i]? = some (some v) ∧ RepM K O0 σ ρ .t H H v p ∧ RepM K O0 σ ρ .w H H v p := by
  unfold eVo at h
  split at h
  · rename_i q hq
    cases h
    obtain ⟨v, e1, e2⟩ := S.val i _ hq
    exact ⟨v, e1, .inl e2, RepM.s_w (H := H) e2⟩
  · rename_i ps hq
    cases h
    obtain ⟨a, vs, e1, e2, e3, e5, e4⟩ := S.own i _ hq
    exact ⟨.ref a, e1, .inr ⟨a, vs, _, rfl, rfl, e2, e4⟩, .lst e2 e5 (e4.less fun _ z => .inl z)⟩
  · cases h
theorem eVo_noexc {i : Nat} {ρ : Rho} {c : Str} (h : eVo i ρ = .exc c) : False := by
  unfold eVo at h
  split at h <;> cases h
theorem e_varT {i : Nat} (hp : PE X e (tVar i)) : EJ X W .t e (eVo i) := by
  refine pe_imp hp fun σ H Q ⟨H0, O0, ρ, S, G⟩ => ?_
  revert G
  cases hv : eVo i ρ with
  | ok p =>
    intro G
    obtain ⟨v, e1, e2, _⟩ := eVo_get S hv
    exact ⟨v, e1, G v H (Same.refl H) e2⟩
  | exc c => exact (eVo_noexc hv).elim
  | stuck => exact False.elim
/-- what an operation's end must bring -/
def GotV (K : PySem.W.Frag) (O0 : Addr → Prop) (σ : St) (ρ : Rho) (m : Md) (H H2 : Hp) (Q : VK) : R PV → Prop
  | .ok p => ∀ v H', Same H2 H' → RepM K O0 σ ρ m H H' v p → Q v H'
  | _ => False
def OpS (K : PySem.W.Frag) (r : R2) (m1 m2 m : Md) (g : PV → PV → R PV) : Prop :=
  ∀ {H0 O0 σ ρ H H2 x y p q} {Q : VK}, StR K H0 O0 H σ ρ → Same H H2 → RepM K O0 σ ρ m1 H H2 x p → RepM K O0 σ ρ m2 H H2 y q → GotV K O0 σ ρ m H H2 Q (g p q) → r x y H2 Q
def UnS (K : PySem.W.Frag) (r : V → Hp → VK → Prop) (m1 m : Md) (g : PV → R PV) : Prop :=
  ∀ {H0 O0 σ ρ H H2 x p} {Q : VK}, StR K H0 O0 H σ ρ → Same H H2 → RepM K O0 σ ρ m1 H H2 x p → GotV K O0 σ ρ m H H2 Q (g p) → r x H2 Q
def CallS (K : PySem.W.Frag) (r : List V → Hp → VK → Prop) (m1 m : Md) (g : List PV → R PV) : Prop :=
  ∀ {H0 O0 σ ρ H H2 xs ps} {Q : VK}, StR K H0 O0 H σ ρ → Same H H2 → Paired (RepM K O0 σ ρ m1 H H2) xs ps → GotV K O0 σ ρ m H H2 Q (g ps) → r xs H2 Q
def e2 (g : PV → PV → R PV) (f1 f2 : Rho → R PV) : Rho → R PV := fun ρ => (f1 ρ).bind fun x => (f2 ρ).bind fun y => g x y
def e1 (g : PV → R PV) (f1 : Rho → R PV) : Rho → R PV := fun ρ => (f1 ρ).bind g
theorem Got.v {K : PySem.W.Frag} {mg : Str → Option Value} {O0 : Addr → Prop} {σ : St} {ρ : Rho} {H H2 : Hp} {Q : VK} {x : R PV} (hx : ∀ c, x ≠ .exc c) (s : Same H H2) (G : Got K mg W O0 σ ρ m H Q x) : GotV K O0 σ ρ m H H2 Q x := by
  cases x with
  | ok p => exact fun v H' s' r => G v H' (s.trans s') r
  | exc c => exact absurd rfl (hx c)
  | stuck => exact G
theorem t_op {r : R2} {g : PV → PV → R PV} (hg : ∀ p q c, g p q ≠ .exc c) (ho : OpS X.K r m1 m2 m g) : ∀ σ H Q, tE X.K X.mg W m (e2 g f h) σ H Q → tOp r (tE X.K X.mg W m1 f) (tE X.K X.mg W m2 h) σ H Q := by
  intro σ H Q ⟨H0, O0, ρ, S, G⟩
  refine ⟨H0, O0, ρ, S, ?_⟩
  revert G
  unfold e2
  cases f ρ with
  | stuck => exact False.elim
  | exc c => exact id
  | ok p =>
    intro G x H1 s1 r1
    refine ⟨H0, O0, ρ, S.step s1, ?_⟩
    revert G
    rw [R.bind_ok]
    cases h ρ with
    | stuck => exact False.elim
    | exc c => exact fun G C H' s' => G C H' (s1.trans s')
    | ok q =>
      intro G y H2 s2 r2
      exact ho S (s1.trans s2) (r1.step s2) (r2.back s1) (Got.v (hg p q) (s1.trans s2) G)
theorem e_op {op : Operator} {r : R2} {g : PV → PV → R PV} (hr : OpR X (binaryOp op) r) (hg : ∀ p q c, g p q ≠ .exc c) (ho : OpS X.K r m1 m2 m g) (ha : EJ X W m1 a f) (hb : EJ X W m2 b h) : EJ X W m (.BinOp a op b pos) (e2 g f h) :=
  pe_imp (pe_op hr ha hb) (t_op hg ho)
theorem e_cmp {op : CmpOp} {r : R2} {g : PV → PV → R PV} (hr : OpR X (compareOp op) r) (hg : ∀ p q c, g p q ≠ .exc c) (ho : OpS X.K r m1 m2 m g) (ha : EJ X W m1 a f) (hb : EJ X W m2 b h) (hm : behindInMarks op b = false) : EJ X W m (.Compare a [op] [b] pos) (e2 g f h) :=
  pe_imp (pe_cmpR hr ha hb hm) (t_op hg ho)
theorem e_ix {r : R2} {g : PV → PV → R PV} (hr : IxR X r) (hg : ∀ p q c, g p q ≠ .exc c) (ho : OpS X.K r m1 m2 m g) (ha : EJ X W m1 a f) (hb : EJ X W m2 b h) (hs : PlainIx b) : EJ X W m (.Subscript a b pos) (e2 g f h) :=
  pe_imp (pe_ix hr ha hb hs) (t_op hg ho)
theorem e_un {op : UnaryOp} {r : V → Hp → VK → Prop} {g : PV → R PV} (hr : UnR X (unaryOp op) r) (hg : ∀ p c, g p ≠ .exc c) (ho : UnS X.K r m1 m g) (ha : EJ X W m1 a f) : EJ X W m (.UnaryOp op a pos) (e1 g f) := by
  refine pe_imp (pe_un hr ha) fun σ H Q ⟨H0, O0, ρ, S, G⟩ => ⟨H0, O0, ρ, S, ?_⟩
  revert G
  unfold e1
  cases f ρ with
  | stuck => exact False.elim
  | exc c => exact id
  | ok p => exact fun G x H1 s1 r1 => ho S s1 r1 (Got.v (hg p) s1 G)
def asB : PV → R Bool
  | .bl b => .ok b
  | _ => .stuck
def tB1 (f : Rho → R PV) : Rho → R Bool := fun ρ => (f ρ).bind asB
theorem GotB {K : PySem.W.Frag} {mg : Str → Option Value} {O0 : Addr → Prop} {σ : St} {ρ : Rho} {H : Hp} {Q : Bool → Hp → Prop} {x : R PV} (G : GotT mg W σ H Q (x.bind asB)) : Got K mg W O0 σ ρ .s H (fun v H' => ∃ k, v = .bl k ∧ Q k H') x := by
  revert G
  cases x with
  | stuck => exact False.elim
  | exc c => exact id
  | ok p =>
    cases p with
    | bl b => exact fun G v H' s r => by cases r; exact ⟨b, rfl, G H' s⟩
    | _ => exact False.elim
theorem t_cmp {op : CmpOp} {r : R2} {g : PV → PV → R PV} (hr : OpR X (compareOp op) r) (hg : ∀ p q c, g p q ≠ .exc c) (ho : OpS X.K r m1 m2 .s g) (ha : EJ X W m1 a f) (hb : EJ X W m2 b h) (hm : behindInMarks op b = false) : TJ X W (.Compare a [op] [b] pos) (tB1 (e2 g f h)) := by
  refine pt_imp (pt_cmpR hr ha hb hm) fun σ H Q ⟨H0, O0, ρ, S, G⟩ => ?_
  exact t_op hg ho σ H _ ⟨H0, O0, ρ, S, GotB G⟩
/-- an expression of any other kind, worth a truth value -/
theorem t_val (ha : EJ X W .s e f) (he : ∀ whole, isTrue e X.env whole = (do let v ← whole; standAt e.pos; holding [v] (truthy v)) := by intro _; rfl) : TJ X W e (tB1 f) := by
  refine pt_imp (pt_val ha he) fun σ H Q ⟨H0, O0, ρ, S, G⟩ => ⟨H0, O0, ρ, S, GotB G⟩
variable {fT gT hT : Rho → R Bool}
def tNt (f : Rho → R Bool) : Rho → R Bool := fun ρ => (f ρ).bind fun b => .ok (!b)
def tAn (f g : Rho → R Bool) : Rho → R Bool := fun ρ => (f ρ).bind fun b => if b = true then g ρ else .ok false
def tOr' (f g : Rho → R Bool) : Rho → R Bool := fun ρ => (f ρ).bind fun b => if b = true then .ok true else g ρ
theorem t_not (ha : TJ X W a fT) : TJ X W (.UnaryOp .Not a pos) (tNt fT) := by
  refine pt_imp (pt_not ha) fun σ H Q ⟨H0, O0, ρ, S, G⟩ => ⟨H0, O0, ρ, S, ?_⟩
  revert G
  unfold tNt
  cases fT ρ with
  | stuck => exact False.elim
  | exc c => exact id
  | ok b => exact fun G H' s => G H' s
abbrev WJ (X : Cx) (W : WX) (e : Expr) (f : Rho → R Bool) : Prop := PW X e (tT X.K X.mg W f)
theorem t_w (h : WJ X W e fT) : TJ X W e fT := PW.pt h
variable {rest : List Expr}
theorem w_and1 (ha : TJ X W a fT) : WJ X W (.BoolOp .And [a] pos) fT := pw_and1 ha
theorem w_or1 (ha : TJ X W a fT) : WJ X W (.BoolOp .Or [a] pos) fT := pw_or1 ha
theorem w_and (ha : TJ X W a fT) (hb : WJ X W (.BoolOp .And (b :: rest) pos) gT) : WJ X W (.BoolOp .And (a :: b :: rest) pos) (tAn fT gT) := by
  refine pw_imp (pw_and ha hb) fun σ H Q ⟨H0, O0, ρ, S, G⟩ => ⟨H0, O0, ρ, S, ?_⟩
  revert G
  unfold tAn
  cases fT ρ with
  | stuck => exact False.elim
  | exc c => exact id
  | ok k =>
    intro G H1 s1
    cases k with
    | true => rw [if_pos rfl]; exact ⟨H0, O0, ρ, S.step s1, GotT.later s1 G⟩
    | false => rw [if_neg Bool.false_ne_true]; exact G H1 s1
theorem w_or (ha : TJ X W a fT) (hb : WJ X W (.BoolOp .Or (b :: rest) pos) gT) : WJ X W (.BoolOp .Or (a :: b :: rest) pos) (tOr' fT gT) := by
  refine pw_imp (pw_or ha hb) fun σ H Q ⟨H0, O0, ρ, S, G⟩ => ⟨H0, O0, ρ, S, ?_⟩
  revert G
  unfold tOr'
  cases fT ρ with
  | stuck => exact False.elim
  | exc c => exact id
  | ok k =>
    intro G H1 s1
    cases k with
    | false => rw [if_neg Bool.false_ne_true]; exact ⟨H0, O0, ρ, S.step s1, GotT.later s1 G⟩
    | true => rw [if_pos rfl]; exact G H1 s1
/-- and, or, not as values -/
def eAn (f g : Rho → R PV) : Rho → R PV := fun ρ => (f ρ).bind fun p => (asB p).bind fun b => if b = true then g ρ else .ok (.bl false)
def eOr (f g : Rho → R PV) : Rho → R PV := fun ρ => (f ρ).bind fun p => (asB p).bind fun b => if b = true then .ok (.bl true) else g ρ
def notP : PV → R PV
  | .bl b => .ok (.bl (!b))
  | _ => .stuck
theorem e_one {op : BoolOp} (ha : EJ X W m a f) : EJ X W m (.BoolOp op [a] pos) f := pe_one ha
theorem e_and (ha : EJ X W .s a f) (hb : EJ X W .s (.BoolOp .And (b :: rest) pos) g) : EJ X W .s (.BoolOp .And (a :: b :: rest) pos) (eAn f g) := by
  refine pe_imp (pe_and ha hb) fun σ H Q ⟨H0, O0, ρ, S, G⟩ => ⟨H0, O0, ρ, S, ?_⟩
  revert G
  unfold eAn
  cases f ρ with
  | stuck => exact False.elim
  | exc c => exact id
  | ok p =>
    cases p with
    | bl k =>
      intro G v H1 s1 r1
      cases r1
      refine ⟨k, rfl, ?_⟩
      cases k with
      | true => rw [if_pos rfl]; exact ⟨H0, O0, ρ, S.step s1, Got.later s1 G⟩
      | false => rw [if_neg Bool.false_ne_true]; exact G _ H1 s1 (.bl false)
    | _ => exact False.elim
theorem e_or (ha : EJ X W .s a f) (hb : EJ X W .s (.BoolOp .Or (b :: rest) pos) g) : EJ X W .s (.BoolOp .Or (a :: b :: rest) pos) (eOr f g) := by
  refine pe_imp (pe_or ha hb) fun σ H Q ⟨H0, O0, ρ, S, G⟩ => ⟨H0, O0, ρ, S, ?_⟩
  revert G
  unfold eOr
  cases f ρ with
  | stuck => exact False.elim
  | exc c => exact id
  | ok p =>
    cases p with
    | bl k =>
      intro G v H1 s1 r1
      cases r1
      refine ⟨k, rfl, ?_⟩
      cases k with
      | false => rw [if_neg Bool.false_ne_true]; exact ⟨H0, O0, ρ, S.step s1, Got.later s1 G⟩
      | true => rw [if_pos rfl]; exact G _ H1 s1 (.bl true)
    | _ => exact False.elim
theorem e_not (ha : EJ X W .s a f) : EJ X W .s (.UnaryOp .Not a pos) (e1 notP f) := by
  refine pe_imp (pe_not ha) fun σ H Q ⟨H0, O0, ρ, S, G⟩ => ⟨H0, O0, ρ, S, ?_⟩
  revert G
  unfold e1
  cases f ρ with
  | stuck => exact False.elim
  | exc c => exact id
  | ok p =>
    cases p with
    | bl k => exact fun G v H1 s1 r1 => by cases r1; exact ⟨k, rfl, G _ H1 s1 (.bl _)⟩
    | _ => exact False.elim
def eIf (t : Rho → R Bool) (f g : Rho → R PV) : Rho → R PV := fun ρ => (t ρ).bind fun b => if b = true then f ρ else g ρ
def aNil : Rho → R (List PV) := fun _ => .ok []
def aCons (f : Rho → R PV) (g : Rho → R (List PV)) : Rho → R (List PV) := fun ρ => (f ρ).bind fun p => (g ρ).bind fun ps => .ok (p :: ps)
variable {es : List Expr} {fA : Rho → R (List PV)}
theorem a_nil : AJ X W m [] aNil := by
  refine pa_imp pa_nil fun σ H Q ⟨H0, O0, ρ, S, G⟩ => ?_
  exact G [] H (Same.refl H) .nil
theorem a_cons (ha : EJ X W m e f) (hr : AJ X W m es fA) (hs : starEach (e :: es) X.env = (false, eval e X.env) :: starEach es X.env := by rfl) : AJ X W m (e :: es) (aCons f fA) := by
  refine pa_imp (pa_cons ha hr hs) fun σ H Q ⟨H0, O0, ρ, S, G⟩ => ⟨H0, O0, ρ, S, ?_⟩
  revert G
  unfold aCons
  cases f ρ with
  | stuck => exact False.elim
  | exc c => exact id
  | ok p =>
    intro G v H1 s1 r1
    refine ⟨H0, O0, ρ, S.step s1, ?_⟩
    revert G
    rw [R.bind_ok]
    cases fA ρ with
    | stuck => exact False.elim
    | exc c => exact fun G C H' s' => G C H' (s1.trans s')
    | ok ps =>
      intro G vs H2 s2 r2
      refine G (v :: vs) H2 (s1.trans s2) (.cons (r1.step s2) ?_)
      exact Paired.mapP r2 fun _ _ z => z.back s1
theorem reps_of {K : PySem.W.Frag} {O0 : Addr → Prop} {σ : St} {ρ : Rho} {H H' : Hp} : ∀ {vs : List V} {ps : List PV}, Paired (RepM K O0 σ ρ .s H H') vs ps → Reps K H' (OO O0 σ ρ) vs ps
  | _, _, .nil => .nil
  | _, _, .cons h r => .cons h (reps_of r)
theorem same_new {H : Hp} {p : Addr} {o : HO} (h : H p = none) : Same H (upd H p o) := fun b x z => by
  rw [upd_ne (ne_of_none z h)]; exact z
def tupP (ps : List PV) : R PV := if ps.length ≤ sizeLine then .ok (.tup ps) else .stuck
def lstP (ps : List PV) : R PV := if ps.length ≤ sizeLine then .ok (.lst ps) else .stuck
def eD (g : List PV → R PV) (f : Rho → R (List PV)) : Rho → R PV := fun ρ => (f ρ).bind g
theorem new_tup {K : PySem.W.Frag} {H0 H H1 : Hp} {O0 : Addr → Prop} {σ : St} {ρ : Rho} (S : StR K H0 O0 H1 σ ρ) {vs : List V} {ps : List PV} (r : Reps K H1 (OO O0 σ ρ) vs ps) {p : Addr} (hp : H1 p = none) : Rep K (upd H1 p (.tup vs)) (OO O0 σ ρ) (.ref p) (.tup ps) :=
  .tup (.inl ⟨upd_same, fun z => S.there z hp⟩) (r.same (same_new hp))
theorem new_lst {K : PySem.W.Frag} {H0 H H1 : Hp} {O0 : Addr → Prop} {σ : St} {ρ : Rho} (s : Same H H1) {vs : List V} {ps : List PV} (r : Reps K H1 (OO O0 σ ρ) vs ps) {p : Addr} (hp : H1 p = none) : RepM K O0 σ ρ .f H (upd H1 p (.lst vs)) (.ref p) (.lst ps) :=
  ⟨p, vs, ps, rfl, rfl, s.free hp, upd_same, r.mono fun b o hb nb => ⟨same_new hp b o hb, fun z => z.elim nb fun z => by rw [z, hp] at hb; cases hb⟩⟩
theorem e_tup {k : Nat} (h : AJ X W .s es fA) : EJ X W .s (.Tuple es k pos) (eD tupP fA) := by
  refine pe_imp (pe_tup h) fun σ H Q ⟨H0, O0, ρ, S, G⟩ => ⟨H0, O0, ρ, S, ?_⟩
  revert G
  unfold eD
  cases fA ρ with
  | stuck => exact False.elim
  | exc c => exact id
  | ok ps =>
    intro G vs H1 s1 r1
    have rr := reps_of r1
    revert G
    rw [R.bind_ok]
    unfold tupP
    split
    · rename_i hz
      exact fun G => ⟨by rw [rr.length]; exact hz, fun p hp => G _ _ (s1.trans (same_new hp)) (new_tup (H := H) (S.step s1) rr hp)⟩
    · exact False.elim
theorem e_lst (h : AJ X W .s es fA) : EJ X W .f (.List es pos) (eD lstP fA) := by
  refine pe_imp (pe_lst h) fun σ H Q ⟨H0, O0, ρ, S, G⟩ => ⟨H0, O0, ρ, S, ?_⟩
  revert G
  unfold eD
  cases fA ρ with
  | stuck => exact False.elim
  | exc c => exact id
  | ok ps =>
    intro G vs H1 s1 r1
    have rr := reps_of r1
    revert G
    rw [R.bind_ok]
    unfold lstP
    split
    · rename_i hz
      exact fun G => ⟨by rw [rr.length]; exact hz, fun p hp => G _ _ (s1.trans (same_new hp)) (new_lst (H0 := H0) s1 rr hp)⟩
    · exact False.elim
theorem e_callB {x : Str} {p : Pos} {id : String} {r : List V → Hp → VK → Prop} {g' : List PV → R PV} (hc : CallR X (.builtin id) r) (hgn : ∀ ps c, g' ps ≠ .exc c) (ho : CallS X.K r m1 m g') (hg : Gl X x) (hm : X.mg x = none) (hv : bootBuiltins x = some (.builtin id)) (ha : AJ X W m1 (e :: es) fA) (hn : x ≠ "__name__" := by decide) (hdb : (x == ("__debug__" : Str)) = false := by decide)
    (he : starEach (e :: es) X.env = (false, eval e X.env) :: starEach es X.env := by rfl) (hpl : (backTo pos (starEach es X.env)).any (·.1) = false := by rfl) : EJ X W m (.Call (.Name x p) (e :: es) [] pos) (eD g' fA) := by
  refine pe_imp (pe_callB hc hg hm hv ha hn hdb he hpl) fun σ H Q ⟨H0, O0, ρ, S, G⟩ => ⟨H0, O0, ρ, S, ?_⟩
  revert G
  unfold eD
  cases fA ρ with
  | stuck => exact False.elim
  | exc c => exact fun G => G
  | ok ps => exact fun G vs H1 s1 r1 => ho S s1 r1 (Got.v (hgn ps) s1 G)
theorem e_callTy {x : Str} {p : Pos} {T : String} {r : List V → Hp → VK → Prop} {g' : List PV → R PV} (hc : CallR X (.type T) r) (hgn : ∀ ps c, g' ps ≠ .exc c) (ho : CallS X.K r m1 m g') (hg : Gl X x) (hm : X.mg x = none) (hv : bootBuiltins x = some (.type T)) (ha : AJ X W m1 (e :: es) fA) (hn : x ≠ "__name__" := by decide) (hdb : (x == ("__debug__" : Str)) = false := by decide)
    (he : starEach (e :: es) X.env = (false, eval e X.env) :: starEach es X.env := by rfl) (hpl : (backTo pos (starEach es X.env)).any (·.1) = false := by rfl) : EJ X W m (.Call (.Name x p) (e :: es) [] pos) (eD g' fA) := by
  refine pe_imp (pe_callTy hc hg hm hv ha hn hdb he hpl) fun σ H Q ⟨H0, O0, ρ, S, G⟩ => ⟨H0, O0, ρ, S, ?_⟩
  revert G
  unfold eD
  cases fA ρ with
  | stuck => exact False.elim
  | exc c => exact fun G => G
  | ok ps => exact fun G vs H1 s1 r1 => ho S s1 r1 (Got.v (hgn ps) s1 G)
def RepR (K : PySem.W.Frag) (O : Addr → Prop) : Bool → Hp → Hp → V → PV → Prop
  | false, _, H', v, p => Rep K H' O v p
  | true, H, H', v, p => ∃ a vs ps, v = .ref a ∧ p = .lst ps ∧ H a = none ∧ H' a = some (.lst vs) ∧ Reps K H' (fun b => O b ∨ b = a) vs ps
/-- the def's promise: n arguments; the function of their values; whether what it hands back is a new list -/
def spF (K : PySem.W.Frag) (mg : Str → Option Value) (n : Nat) (nw : Bool) (F : List PV → R PV) : Sp := fun vs H Q E =>
  ∃ ps O, (∀ a, O a → H a ≠ none) ∧ Reps K H O vs ps ∧ vs.length = n ∧ (match F ps with
    | .ok p => ∀ v H', Same H H' → RepR K O nw H H' v p → Q v H'
    | .exc c => ∀ C H', Same H H' → mg c = some (.ref C) → E (.ref C) none H'
    | .stuck => False)
def mdR : Bool → Md | false => .s | true => .f
theorem e_call {x : Str} {p : Pos} {k : Nat} {fa : Addr} {fd : FuncData} {pn : List Str} {n : Nat} {nw : Bool} {F : List PV → R PV} {dvs : List V} {dps : List PV} {ds : List Value} (Fo : FnOk X.prog X.w X.K X.mg X.base (L2N.CX X.prog X.w) k fa fd pn (spF X.K X.mg n nw F)) (hr : Room k X.A) (hg : Gl X x) (hm : X.mg x = some (.ref fa))
    (hk : PySem.W.keepIn X.K (.ref fa) = true) (hb : L2.Binds X.K fd pn ds) (hd : Vals dvs ds) (hdp : ∀ H O, Reps X.K H O dvs dps) (tk : L2N.Takes X W) (ha : AJ X W .s (e :: es) fA) (hlen : n = es.length + 1 + dvs.length := by rfl) (hal : ∀ ρ ps, fA ρ = .ok ps → ps.length = es.length + 1) (hdb : (x == ("__debug__" : Str)) = false := by decide)
    (he : starEach (e :: es) X.env = (false, eval e X.env) :: starEach es X.env := by rfl) (hpl : (backTo pos (starEach es X.env)).any (·.1) = false := by rfl) : EJ X W (mdR nw) (.Call (.Name x p) (e :: es) [] pos) (eD (fun ps => F (ps ++ dps)) fA) := by
  refine pe_imp (pe_callSD (E := fun σ cls d H => W cls d σ H) Fo hr hg hm hk hb hd (fun σ => L2N.passAt tk σ) ha hdb he hpl) fun σ H Q ⟨H0, O0, ρ, S, G⟩ => ⟨H0, O0, ρ, S, ?_⟩
  revert G
  unfold eD
  cases hA : fA ρ with
  | stuck => exact False.elim
  | exc c => exact id
  | ok ps =>
    intro G vs H1 s1 r1
    have rr := reps_of r1
    refine ⟨ps ++ dps, OO O0 σ ρ, fun a z => (S.step s1).there z, rr.append (hdp _ _), ?_, ?_⟩
    · rw [List.length_append, rr.length, hal ρ ps hA, hlen]
    · revert G
      rw [R.bind_ok]
      cases F (ps ++ dps) with
      | stuck => exact id
      | exc c => exact fun G C H' s' e => G C H' (s1.trans s') e
      | ok p =>
        intro G v H' s' r'
        refine G v H' (s1.trans s') ?_
        cases nw with
        | false => exact r'
        | true =>
          obtain ⟨a, vs', ps', q1, q2, q3, q4, q5⟩ := r'
          exact ⟨a, vs', ps', q1, q2, s1.free q3, q4, q5⟩
end
end PL
set_option Elab.async false
set_option linter.all false
set_option maxRecDepth 100000
set_option autoImplicit false
namespace PL
open PySem PySem.Spec L2
open PyProof.Rows hiding St
section
variable {K : PySem.W.Frag} {H0 H H1 H2 : Hp} {O0 : Addr → Prop} {σ : St} {ρ : Rho} {x : V} {p : PV}
theorem rt_int {i : Int} (r : RepM K O0 σ ρ .t H H2 x (.int i)) : x = .int i := by
  rcases r with r | ⟨_, _, _, _, e, _⟩
  · cases r; rfl
  · cases e
theorem rt_str {i : Str} (r : RepM K O0 σ ρ .t H H2 x (.str i)) : x = .str i := by
  rcases r with r | ⟨_, _, _, _, e, _⟩
  · cases r; rfl
  · cases e
theorem rt_non (r : RepM K O0 σ ρ .t H H2 x .non) : x = .non := by
  rcases r with r | ⟨_, _, _, _, e, _⟩
  · cases r; rfl
  · cases e
theorem rt_lst {l : List PV} (r : RepM K O0 σ ρ .t H H2 x (.lst l)) : ∃ a vs, x = .ref a ∧ H2 a = some (.lst vs) ∧ Reps K H2 (OO O0 σ ρ) vs l := by
  rcases r with r | ⟨a, vs, ps, e1, e2, e3, e4⟩
  · cases r with
    | lst h _ r => exact ⟨_, _, rfl, h, r⟩
  · cases e2; exact ⟨a, vs, e1, e3, e4⟩
theorem sqT_of {O : Addr → Prop} {a : Addr} {xs : List V} (h : H a = some (.tup xs) ∧ ¬ O a ∨ KT K a xs) : SqT K H a xs := by
  rcases h with ⟨h, _⟩ | h
  · exact .inl (.inl h)
  · exact h.sq
theorem rt_tup {l : List PV} (r : RepM K O0 σ ρ .t H H2 x (.tup l)) : ∃ a vs, x = .ref a ∧ (H2 a = some (.tup vs) ∧ ¬ OO O0 σ ρ a ∨ KT K a vs) ∧ Reps K H2 (OO O0 σ ρ) vs l := by
  rcases r with r | ⟨a, vs, ps, e1, e2, e3, e4⟩
  · cases r with
    | tup h r => exact ⟨_, _, rfl, h, r⟩
  · cases e2
theorem rt_frz {l : List PV} (r : RepM K O0 σ ρ .t H H2 x (.frz l)) : ∃ (a : Addr) (ns : List Int), x = .ref a ∧ l = ns.map PV.int ∧ SqL K H2 a (ns.map V.int) := by
  rcases r with r | ⟨a, vs, ps, e1, e2, e3, e4⟩
  · generalize hl : PV.frz l = q at r
    cases r with
    | frz h =>
      cases hl
      refine ⟨_, _, rfl, rfl, ?_⟩
      rcases h with ⟨⟨o, h⟩, _⟩ | h
      · exact .inl (.inr ⟨o, h⟩)
      · exact h _
    | _ => cases hl
  · cases e2
end
def addP : PV → PV → R PV
  | .int a, .int b => .ok (.int (a + b))
  | .str a, .str b => if a.length + b.length ≤ sizeLine then .ok (.str (a ++ b)) else .stuck
  | .tup a, .tup b => if a.length + b.length ≤ sizeLine then .ok (.tup (a ++ b)) else .stuck
  | .lst a, .lst b => if a.length + b.length ≤ sizeLine then .ok (.lst (a ++ b)) else .stuck
  | _, _ => .stuck
def addL : PV → PV → R PV
  | .lst a, .lst b => if a.length + b.length ≤ sizeLine then .ok (.lst (a ++ b)) else .stuck
  | _, _ => .stuck
theorem addP_exc (p q : PV) (c : Str) : addP p q ≠ .exc c := by
  unfold addP; split <;> (try split) <;> exact fun z => nomatch z
theorem addL_exc (p q : PV) (c : Str) : addL p q ≠ .exc c := by
  unfold addL; split <;> (try split) <;> exact fun z => nomatch z
def rAddP (K : PySem.W.Frag) : R2 := fun x y H Q => rI0 (fun i j => .int (i + j)) x y H Q ∨ (∃ i j, x = .str i ∧ y = .str j ∧ i.length + j.length ≤ sizeLine ∧ Q (.str (i ++ j)) H) ∨ rCatA K x y H Q ∨ rCat x y H Q
theorem op_addP {X : Cx} : OpR X (binaryOp .Add) (rAddP X.K) := op_add.or (op_add_str.or (op_catA.or op_cat))
theorem cat_s {K : PySem.W.Frag} {H0 H H2 : Hp} {O0 : Addr → Prop} {σ : St} {ρ : Rho} {x y : V} {a b : List PV} {Q : VK} (S : StR K H0 O0 H σ ρ) (s : Same H H2) (rx : RepM K O0 σ ρ .t H H2 x (.lst a)) (ry : RepM K O0 σ ρ .t H H2 y (.lst b))
    (hz : a.length + b.length ≤ sizeLine) (G : ∀ v H', Same H2 H' → RepM K O0 σ ρ .f H H' v (.lst (a ++ b)) → Q v H') : rCat x y H2 Q := by
  obtain ⟨c, vs, rfl, h1, r1⟩ := rt_lst rx
  obtain ⟨d, ws, rfl, h2, r2⟩ := rt_lst ry
  exact ⟨c, d, vs, ws, rfl, rfl, h1, h2, by rw [r1.length, r2.length]; exact hz, fun l hl => G _ _ (same_new hl) (new_lst (H0 := H0) s (r1.append r2) hl)⟩
theorem s_addL (K : PySem.W.Frag) : OpS K rCat .t .t .f addL := by
  intro H0 O0 σ ρ H H2 x y p q Q S s rx ry G
  unfold addL at G
  split at G
  · split at G
    · rename_i hz; exact cat_s S s rx ry hz G
    · exact G.elim
  · exact G.elim
theorem s_addP (K : PySem.W.Frag) : OpS K (rAddP K) .t .t .s addP := by
  intro H0 O0 σ ρ H H2 x y p q Q S s rx ry G
  unfold addP at G
  split at G
  · rw [rt_int rx, rt_int ry]; exact .inl ⟨_, _, rfl, rfl, G _ _ (Same.refl _) (.int _)⟩
  · split at G
    · rename_i hz
      rw [rt_str rx, rt_str ry]; exact .inr (.inl ⟨_, _, rfl, rfl, hz, G _ _ (Same.refl _) (.str _)⟩)
    · exact G.elim
  · split at G
    · rename_i hz
      obtain ⟨c, vs, rfl, h1, r1⟩ := rt_tup rx
      obtain ⟨d, ws, rfl, h2, r2⟩ := rt_tup ry
      refine .inr (.inr (.inl ⟨c, d, vs, ws, rfl, rfl, sqT_of h1, sqT_of h2, by rw [r1.length, r2.length]; exact hz, fun e => ?_, fun _ e => ?_, fun _ _ l hl => ?_⟩))
      · subst e
        cases r1
        exact G _ _ (Same.refl _) (.tup h2 r2)
      · subst e
        cases r2
        rw [List.append_nil] at G
        exact G _ _ (Same.refl _) (.tup h1 r1)
      · exact G _ _ (same_new hl) (new_tup (H := H) (S.step s) (r1.append r2) hl)
    · exact G.elim
  · split at G
    · rename_i hz
      exact .inr (.inr (.inr (cat_s S s rx ry hz fun v H' s' r' => G v H' s' (RepM.f_s S r'))))
    · exact G.elim
  · exact G.elim
/-- an operation of two ints -/
def intP (c : Int → Int → Bool) (g : Int → Int → PV) : PV → PV → R PV
  | .int a, .int b => if c a b = true then .ok (g a b) else .stuck
  | _, _ => .stuck
theorem intP_exc {c : Int → Int → Bool} {g : Int → Int → PV} (p q : PV) (k : Str) : intP c g p q ≠ .exc k := by
  unfold intP; split <;> (try split) <;> exact fun z => nomatch z
theorem s_int {K : PySem.W.Frag} {C : Int → Int → Prop} {c : Int → Int → Bool} {gv : Int → Int → V} {g : Int → Int → PV} (hc : ∀ a b, c a b = true → C a b) (hr : ∀ H O a b, Rep K H O (gv a b) (g a b)) : OpS K (rI C gv) .t .t .s (intP c g) := by
  intro H0 O0 σ ρ H H2 x y p q Q S s rx ry G
  unfold intP at G
  split at G
  · split at G
    · rename_i hz
      rw [rt_int rx, rt_int ry]; exact ⟨_, _, rfl, rfl, hc _ _ hz, G _ _ (Same.refl _) (hr _ _ _ _)⟩
    · exact G.elim
  · exact G.elim
theorem s_int0 {K : PySem.W.Frag} {gv : Int → Int → V} {g : Int → Int → PV} (hr : ∀ H O a b, Rep K H O (gv a b) (g a b)) : OpS K (rI0 gv) .t .t .s (intP (fun _ _ => true) g) := by
  intro H0 O0 σ ρ H H2 x y p q Q S s rx ry G
  unfold intP at G
  split at G
  · rw [if_pos rfl] at G
    rw [rt_int rx, rt_int ry]; exact ⟨_, _, rfl, rfl, G _ _ (Same.refl _) (hr _ _ _ _)⟩
  · exact G.elim
abbrev subP := intP (fun _ _ => true) fun a b => .int (a - b)
abbrev okMul (a b : Int) : Bool := decide (a.natAbs.log2 + b.natAbs.log2 < 100000000)
/-- factors of together less than a hundred million bits -/
def CMulV (i j : Int) : Prop := i.natAbs.log2 + j.natAbs.log2 < 100000000
theorem CMulV.okM {i j : Int} (h : CMulV i j) : IntMulOk i j := by
  have b : ∀ y : Int, Builtin.Int.intBits y ≤ y.natAbs.log2 + 1 := fun y => by unfold Builtin.Int.intBits; split <;> omega
  have h1 := b i
  have h2 := b j
  unfold CMulV at h
  exact CMulX.ok (show CMulX i j by unfold CMulX; omega)
theorem op_mulV {X : Cx} : OpR X (binaryOp .Mult) (rI CMulV fun i j => .int (i * j)) := opI fun _ _ _ _ _ _ _ hc q => mul_int q hc.okM
abbrev mulP := intP okMul fun a b => .int (a * b)
abbrev okDiv (_ b : Int) : Bool := decide (b ≠ 0) && decide (b.natAbs.log2 < 9000)
abbrev fdivP := intP okDiv fun a b => .int (a.fdiv b)
abbrev modP := intP (fun _ b => decide (b ≠ 0)) fun a b => .int (a.fmod b)
abbrev okPow (a b : Int) : Bool := decide (0 ≤ b) && decide (b ≤ 1000000) && decide (a.natAbs < 2 ^ 64)
abbrev powP := intP okPow fun a b => .int (a ^ b.toNat)
abbrev ltP := intP (fun _ _ => true) fun a b => .bl (decide (a < b))
abbrev leP := intP (fun _ _ => true) fun a b => .bl (decide (a ≤ b))
abbrev gtP := intP (fun _ _ => true) fun a b => .bl (decide (b < a))
abbrev geP := intP (fun _ _ => true) fun a b => .bl (decide (b ≤ a))
def CDivA (i j : Int) : Prop := j ≠ 0 ∧ j.natAbs.log2 < 9000
theorem op_fdivA {X : Cx} : OpR X (binaryOp .FloorDiv) (rI CDivA fun i j => .int (i.fdiv j)) := opI fun i j _ _ _ _ _ hc q => floordiv_int hc.1 q (.inl (PyProof.noPylong_of_log2 hc.2))
theorem iop_mulW {X : Cx} : OpR X (inplaceOp .Mult) (rI CMulV fun i j => .int (i * j)) := opI fun _ _ _ _ _ _ _ hc q => imul_int q hc.okM
theorem okDiv_C (a b : Int) (h : okDiv a b = true) : CDivA a b := by
  rw [Bool.and_eq_true, decide_eq_true_eq, decide_eq_true_eq] at h; exact h
theorem okPow_C (a b : Int) (h : okPow a b = true) : CPow a b := by
  rw [Bool.and_eq_true, Bool.and_eq_true, decide_eq_true_eq, decide_eq_true_eq, decide_eq_true_eq] at h; exact ⟨h.1.1, h.1.2, h.2⟩
section
variable {X : Cx} {W : WX} {e a b c : Expr} {pos : Pos} {m : Md} {f g h : Rho → R PV}
theorem e_add (ha : EJ X W .t a f) (hb : EJ X W .t b g) : EJ X W .s (.BinOp a .Add b pos) (e2 addP f g) := e_op op_addP addP_exc (s_addP _) ha hb
theorem e_addL (ha : EJ X W .t a f) (hb : EJ X W .t b g) : EJ X W .f (.BinOp a .Add b pos) (e2 addL f g) := e_op op_cat addL_exc (s_addL _) ha hb
theorem e_sub (ha : EJ X W .t a f) (hb : EJ X W .t b g) : EJ X W .s (.BinOp a .Sub b pos) (e2 subP f g) := e_op op_sub intP_exc (s_int0 fun _ _ _ _ => .int _) ha hb
theorem e_mul (ha : EJ X W .t a f) (hb : EJ X W .t b g) : EJ X W .s (.BinOp a .Mult b pos) (e2 mulP f g) := e_op op_mulV intP_exc (s_int (fun _ _ h => of_decide_eq_true h) fun _ _ _ _ => .int _) ha hb
theorem e_fdiv (ha : EJ X W .t a f) (hb : EJ X W .t b g) : EJ X W .s (.BinOp a .FloorDiv b pos) (e2 fdivP f g) := e_op op_fdivA intP_exc (s_int okDiv_C fun _ _ _ _ => .int _) ha hb
theorem e_mod (ha : EJ X W .t a f) (hb : EJ X W .t b g) : EJ X W .s (.BinOp a .Mod b pos) (e2 modP f g) := e_op op_modN intP_exc (s_int (fun _ _ h => of_decide_eq_true h) fun _ _ _ _ => .int _) ha hb
theorem e_pow (ha : EJ X W .t a f) (hb : EJ X W .t b g) : EJ X W .s (.BinOp a .Pow b pos) (e2 powP f g) := e_op op_pow intP_exc (s_int okPow_C fun _ _ _ _ => .int _) ha hb
theorem e_lt (ha : EJ X W .t a f) (hb : EJ X W .t b g) : EJ X W .s (.Compare a [.Lt] [b] pos) (e2 ltP f g) := e_cmp op_lt intP_exc (s_int0 fun _ _ _ _ => .bl _) ha hb (nomark _)
theorem e_le (ha : EJ X W .t a f) (hb : EJ X W .t b g) : EJ X W .s (.Compare a [.LtE] [b] pos) (e2 leP f g) := e_cmp op_le intP_exc (s_int0 fun _ _ _ _ => .bl _) ha hb (nomark _)
theorem e_gt (ha : EJ X W .t a f) (hb : EJ X W .t b g) : EJ X W .s (.Compare a [.Gt] [b] pos) (e2 gtP f g) := e_cmp op_gt intP_exc (s_int0 fun _ _ _ _ => .bl _) ha hb (nomark _)
theorem e_ge (ha : EJ X W .t a f) (hb : EJ X W .t b g) : EJ X W .s (.Compare a [.GtE] [b] pos) (e2 geP f g) := e_cmp op_ge intP_exc (s_int0 fun _ _ _ _ => .bl _) ha hb (nomark _)
theorem t_lt (ha : EJ X W .t a f) (hb : EJ X W .t b g) : TJ X W (.Compare a [.Lt] [b] pos) (tB1 (e2 ltP f g)) := t_cmp op_lt intP_exc (s_int0 fun _ _ _ _ => .bl _) ha hb (nomark _)
theorem t_le (ha : EJ X W .t a f) (hb : EJ X W .t b g) : TJ X W (.Compare a [.LtE] [b] pos) (tB1 (e2 leP f g)) := t_cmp op_le intP_exc (s_int0 fun _ _ _ _ => .bl _) ha hb (nomark _)
theorem t_gt (ha : EJ X W .t a f) (hb : EJ X W .t b g) : TJ X W (.Compare a [.Gt] [b] pos) (tB1 (e2 gtP f g)) := t_cmp op_gt intP_exc (s_int0 fun _ _ _ _ => .bl _) ha hb (nomark _)
theorem t_ge (ha : EJ X W .t a f) (hb : EJ X W .t b g) : TJ X W (.Compare a [.GtE] [b] pos) (tB1 (e2 geP f g)) := t_cmp op_ge intP_exc (s_int0 fun _ _ _ _ => .bl _) ha hb (nomark _)
def negP : PV → R PV
  | .int a => .ok (.int (-a))
  | _ => .stuck
theorem e_neg (ha : EJ X W .t a f) : EJ X W .s (.UnaryOp .USub a pos) (e1 negP f) := by
  refine e_un un_neg (fun p c => ?_) ?_ ha
  · unfold negP; split <;> exact fun z => nomatch z
  · intro H0 O0 σ ρ H H2 x p Q S s rx G
    unfold negP at G
    split at G
    · rw [rt_int rx]; exact ⟨_, rfl, G _ _ (Same.refl _) (.int _)⟩
    · exact G.elim
end
mutual
def toD : PV → PyData
  | .non => .none
  | .bl b => .bool b
  | .int i => .int i
  | .str s => .str s
  | .tup l => .tuple (toDs l)
  | .lst l => .list (toDs l)
  | .frz l => .list (toDs l)
  | .dct | .dt _ | .obj _ _ _ => .dict []
def toDs : List PV → List PyData
  | [] => []
  | p :: ps => toD p :: toDs ps
end
mutual
def eqV' : PV → PV → Bool
  | .non, .non => true
  | .bl a, .bl b => a == b
  | .bl a, .int j => (if a then 1 else 0) == j
  | .int i, .bl b => i == (if b then 1 else 0)
  | .int i, .int j => i == j
  | .str x, .str y => x == y
  | .lst xs, .lst ys => eqVs xs ys
  | .lst xs, .frz ys => eqVs xs ys
  | .frz xs, .lst ys => eqVs xs ys
  | .frz xs, .frz ys => eqVs xs ys
  | .tup xs, .tup ys => eqVs xs ys
  | _, _ => false
def eqVs : List PV → List PV → Bool
  | [], [] => true
  | x :: xs, y :: ys => eqV' x y && eqVs xs ys
  | _, _ => false
end
/-- data that may be compared, by how deep it is -/
def okD : Nat → PV → Bool
  | _, .non => true
  | _, .bl _ => true
  | _, .int _ => true
  | _, .str s => PySem.PyData.strOk s
  | n + 1, .tup l => l.all (okD n)
  | n + 1, .lst l => l.all (okD n)
  | n + 1, .frz l => l.all (okD n)
  | _, _ => false
def eqP (p q : PV) : R PV := if (okD 30 p && okD 30 q) = true then .ok (.bl (eqV' p q)) else .stuck
def neP (p q : PV) : R PV := if (okD 30 p && okD 30 q) = true then .ok (.bl (!eqV' p q)) else .stuck
mutual
theorem eqv_toD : ∀ p q : PV, PyData.eqv (toD p) (toD q) = eqV' p q
  | .lst a, .lst b | .lst a, .frz b | .frz a, .lst b | .frz a, .frz b | .tup a, .tup b => by simp only [toD, PyData.eqv, eqV', eqv_toDs a b]
  | .non, q | .bl _, q | .int _, q | .str _, q | .dct, q | .dt _, q | .obj _ _ _, q => by cases q <;> simp only [toD, PyData.eqv, eqV']
  | .lst a, .non | .lst a, .bl _ | .lst a, .int _ | .lst a, .str _ | .lst a, .tup _ | .lst a, .dct | .lst a, .dt _ | .lst a, .obj _ _ _ => by simp only [toD, PyData.eqv, eqV']
  | .frz a, .non | .frz a, .bl _ | .frz a, .int _ | .frz a, .str _ | .frz a, .tup _ | .frz a, .dct | .frz a, .dt _ | .frz a, .obj _ _ _ => by simp only [toD, PyData.eqv, eqV']
  | .tup a, .non | .tup a, .bl _ | .tup a, .int _ | .tup a, .str _ | .tup a, .lst _ | .tup a, .frz _ | .tup a, .dct | .tup a, .dt _ | .tup a, .obj _ _ _ => by simp only [toD, PyData.eqv, eqV']
theorem eqv_toDs : ∀ p q : List PV, PyData.eqvAll (toDs p) (toDs q) = eqVs p q
  | [], [] => by simp only [toDs, PyData.eqvAll, eqVs]
  | x :: xs, y :: ys => by simp only [toDs, PyData.eqvAll, eqVs, eqv_toD x y, eqv_toDs xs ys]
  | [], _ :: _ => by simp only [toDs, PyData.eqvAll, eqVs]
  | _ :: _, [] => by simp only [toDs, PyData.eqvAll, eqVs]
end
mutual
theorem okD_lay : ∀ (n : Nat) (p : PV), okD n p = true → (toD p).canLay0 = true ∧ (toD p).depth ≤ n
  | n, .non, _ => ⟨rfl, Nat.zero_le _⟩
  | n, .bl _, _ => ⟨rfl, Nat.zero_le _⟩
  | n, .int _, _ => ⟨rfl, Nat.zero_le _⟩
  | n, .str s, h => ⟨by simpa only [toD, PyData.canLay0, okD] using h, Nat.zero_le _⟩
  | n, .dct, h | n, .dt _, h | n, .obj _ _ _, h => by simp [okD] at h
  | 0, .tup l, h => by simp [okD] at h
  | 0, .lst l, h => by simp [okD] at h
  | 0, .frz l, h => by simp [okD] at h
  | n + 1, .tup l, h => by
    have z := okDs_lay n l (by simpa only [okD] using h)
    simp only [toD, PyData.canLay0, PyData.depth]
    exact ⟨z.1, by omega⟩
  | n + 1, .lst l, h => by
    have z := okDs_lay n l (by simpa only [okD] using h)
    simp only [toD, PyData.canLay0, PyData.depth]
    exact ⟨z.1, by omega⟩
  | n + 1, .frz l, h => by
    have z := okDs_lay n l (by simpa only [okD] using h)
    simp only [toD, PyData.canLay0, PyData.depth]
    exact ⟨z.1, by omega⟩
theorem okDs_lay : ∀ (n : Nat) (l : List PV), l.all (okD n) = true → PyData.canLayAll0 (toDs l) = true ∧ PyData.depthAll (toDs l) ≤ n
  | n, [], _ => ⟨rfl, Nat.zero_le _⟩
  | n, p :: ps, h => by
    rw [List.all_cons, Bool.and_eq_true] at h
    have z1 := okD_lay n p h.1
    have z2 := okDs_lay n ps h.2
    simp only [toDs, PyData.canLayAll0, PyData.depthAll, z1.1, z2.1]
    exact ⟨rfl, Nat.max_le.mpr ⟨z1.2, z2.2⟩⟩
end
theorem okD_shaped {p : PV} (h : okD 30 p = true) : SeqAt.shaped (toD p) = true := by
  have z := okD_lay 30 p h
  unfold SeqAt.shaped
  rw [z.1, decide_eq_true (show (toD p).depth ≤ 64 by omega)] <;> rfl
theorem dpAll_ints {K : PySem.W.Frag} {H : Hp} : ∀ ns : List Int, DpAll K H (ns.map V.int) (toDs (ns.map PV.int))
  | [] => by simp only [List.map_nil, toDs]; exact .nil
  | n :: ns => by simp only [List.map_cons, toDs, toD]; exact .cons (.int n) (dpAll_ints ns)
mutual
theorem rep_dp {K : PySem.W.Frag} {H : Hp} {O : Addr → Prop} : ∀ {v : V} {p : PV} (n : Nat), Rep K H O v p → okD n p = true → Dp K H v (toD p)
  | _, _, _, .non, _ => by simp only [toD]; exact .non
  | _, _, _, .bl b, _ => by simp only [toD]; exact .bl b
  | _, _, _, .int i, _ => by simp only [toD]; exact .int i
  | _, _, _, .str s, _ => by simp only [toD]; exact .str s
  | _, _, 0, .lst _ _ _, h => by simp [okD] at h
  | _, _, n + 1, .lst h1 _ r, h => by simp only [toD]; exact .lst (.inl (.inl h1)) (reps_dp n r (by simpa only [okD] using h))
  | _, _, 0, .tup _ _, h => by simp [okD] at h
  | _, _, n + 1, .tup h1 r, h => by simp only [toD]; exact .tup (sqT_of h1) (reps_dp n r (by simpa only [okD] using h))
  | _, _, _, .frz h1, h => by
    simp only [toD]
    refine .lst ?_ (dpAll_ints _)
    rcases h1 with ⟨⟨o, h1⟩, _⟩ | h1
    · exact .inl (.inr ⟨o, h1⟩)
    · exact h1 _
  | _, _, n, .dct _ _, h | _, _, n, .dt _ _, h | _, _, n, .obj _ _ _ _ _, h => by simp [okD] at h
theorem reps_dp {K : PySem.W.Frag} {H : Hp} {O : Addr → Prop} : ∀ {v : List V} {p : List PV} (n : Nat), Reps K H O v p → p.all (okD n) = true → DpAll K H v (toDs p)
  | _, _, _, .nil, _ => by simp only [toDs]; exact .nil
  | _, _, n, .cons h r, hz => by
    rw [List.all_cons, Bool.and_eq_true] at hz
    simp only [toDs]
    exact .cons (rep_dp n h hz.1) (reps_dp n r hz.2)
end
theorem rt_dp {K : PySem.W.Frag} {H H2 : Hp} {O0 : Addr → Prop} {σ : St} {ρ : Rho} {x : V} {p : PV} (r : RepM K O0 σ ρ .t H H2 x p) (h : okD 30 p = true) : Dp K H2 x (toD p) := by
  rcases r with r | ⟨a, vs, ps, rfl, rfl, e3, e4⟩
  · exact rep_dp 30 r h
  · simp only [toD]; exact .lst (.inl (.inl e3)) (reps_dp 29 e4 (by simpa only [okD] using h))
theorem eqP_exc (p q : PV) (c : Str) : eqP p q ≠ .exc c := by unfold eqP; split <;> exact fun z => nomatch z
theorem neP_exc (p q : PV) (c : Str) : neP p q ≠ .exc c := by unfold neP; split <;> exact fun z => nomatch z
theorem s_eq (K : PySem.W.Frag) : OpS K (rEqD K) .t .t .s eqP := by
  intro H0 O0 σ ρ H H2 x y p q Q S s rx ry G
  unfold eqP at G
  split at G
  · rename_i hz
    rw [Bool.and_eq_true] at hz
    exact ⟨_, _, rt_dp rx hz.1, rt_dp ry hz.2, okD_shaped hz.1, okD_shaped hz.2, by rw [eqv_toD]; exact G _ _ (Same.refl _) (.bl _)⟩
  · exact G.elim
theorem s_ne (K : PySem.W.Frag) : OpS K (rNeD K) .t .t .s neP := by
  intro H0 O0 σ ρ H H2 x y p q Q S s rx ry G
  unfold neP at G
  split at G
  · rename_i hz
    rw [Bool.and_eq_true] at hz
    exact ⟨_, _, rt_dp rx hz.1, rt_dp ry hz.2, okD_shaped hz.1, okD_shaped hz.2, by rw [eqv_toD]; exact G _ _ (Same.refl _) (.bl _)⟩
  · exact G.elim
section
variable {X : Cx} {W : WX} {e a b c : Expr} {pos : Pos} {m : Md} {f g h : Rho → R PV}
theorem e_eq (hu : X.A.units + 64 < cLine) (ha : EJ X W .t a f) (hb : EJ X W .t b g) : EJ X W .s (.Compare a [.Eq] [b] pos) (e2 eqP f g) := e_cmp (op_eqD hu) eqP_exc (s_eq _) ha hb (nomark _)
theorem e_ne (hu : X.A.units + 64 < cLine) (ha : EJ X W .t a f) (hb : EJ X W .t b g) : EJ X W .s (.Compare a [.NotEq] [b] pos) (e2 neP f g) := e_cmp (op_neD hu) neP_exc (s_ne _) ha hb (nomark _)
theorem t_eq (hu : X.A.units + 64 < cLine) (ha : EJ X W .t a f) (hb : EJ X W .t b g) : TJ X W (.Compare a [.Eq] [b] pos) (tB1 (e2 eqP f g)) := t_cmp (op_eqD hu) eqP_exc (s_eq _) ha hb (nomark _)
theorem t_ne (hu : X.A.units + 64 < cLine) (ha : EJ X W .t a f) (hb : EJ X W .t b g) : TJ X W (.Compare a [.NotEq] [b] pos) (tB1 (e2 neP f g)) := t_cmp (op_neD hu) neP_exc (s_ne _) ha hb (nomark _)
def notNP : PV → PV → R PV
  | .non, .non => .ok (.bl false)
  | _, .non => .ok (.bl true)
  | _, _ => .stuck
theorem notNP_exc (p q : PV) (c : Str) : notNP p q ≠ .exc c := by unfold notNP; split <;> exact fun z => nomatch z
theorem rt_notnon {K : PySem.W.Frag} {H H2 : Hp} {O0 : Addr → Prop} {σ : St} {ρ : Rho} {x : V} {p : PV} (r : RepM K O0 σ ρ .t H H2 x p) (hp : p ≠ .non) : decide (x = .non) = false := by
  refine decide_eq_false fun e => ?_
  subst e
  rcases r with r | ⟨a, vs, ps, e1, _⟩
  · cases r; exact hp rfl
  · cases e1
theorem s_notN (K : PySem.W.Frag) : OpS K (fun x y H Q => y = .non ∧ Q (.bl (!decide (x = .non))) H) .t .t .s notNP := by
  intro H0 O0 σ ρ H H2 x y p q Q S s rx ry G
  unfold notNP at G
  split at G
  · rw [rt_non rx, rt_non ry]; exact ⟨rfl, G _ _ (Same.refl _) (.bl false)⟩
  · rename_i hp
    rw [rt_non ry, rt_notnon rx (fun z => hp z)]; exact ⟨rfl, G _ _ (Same.refl _) (.bl true)⟩
  · exact G.elim
theorem t_notN (ha : EJ X W .t a f) (hb : EJ X W .t b g) : TJ X W (.Compare a [.IsNot] [b] pos) (tB1 (e2 notNP f g)) := t_cmp op_notN notNP_exc (s_notN _) ha hb (nomark _)
def eChain (g1 g2 : PV → PV → R PV) (f g h : Rho → R PV) : Rho → R PV := fun ρ => (f ρ).bind fun x => (g ρ).bind fun y => (g1 x y).bind fun z => (asB z).bind fun k => if k = true then (h ρ).bind fun w => g2 y w else .ok (.bl false)
theorem q_chain {r r' : R2} {g1 g2 : PV → PV → R PV} (hg1 : ∀ p q c, g1 p q ≠ .exc c) (hg2 : ∀ p q c, g2 p q ≠ .exc c) (ho : OpS X.K r .t .t .s g1) (ho' : OpS X.K r' .t .t .s g2) :
    ∀ σ H Q, tE X.K X.mg W .s (eChain g1 g2 f g h) σ H Q → tChain r r' (tE X.K X.mg W .t f) (tE X.K X.mg W .t g) (tE X.K X.mg W .t h) σ H Q := by
  intro σ H Q ⟨H0, O0, ρ, S, G⟩
  refine ⟨H0, O0, ρ, S, ?_⟩
  revert G
  unfold eChain
  cases f ρ with
  | stuck => exact False.elim
  | exc c => exact id
  | ok p =>
    intro G x H1 s1 r1
    refine ⟨H0, O0, ρ, S.step s1, ?_⟩
    revert G
    rw [R.bind_ok]
    cases g ρ with
    | stuck => exact False.elim
    | exc c => exact fun G C H' s' => G C H' (s1.trans s')
    | ok q =>
      intro G y H2 s2 r2
      refine ho S (s1.trans s2) (r1.step s2) (r2.back s1) ?_
      revert G
      rw [R.bind_ok]
      cases hz : g1 p q with
      | stuck => exact False.elim
      | exc c => exact absurd hz (hg1 p q c)
      | ok z =>
        intro G v H3 s3 r3
        revert G
        rw [R.bind_ok]
        cases z with
        | bl k =>
          intro G
          cases r3
          refine ⟨k, rfl, ?_⟩
          cases k with
          | false => rw [if_neg Bool.false_ne_true]; exact G _ _ ((s1.trans s2).trans s3) (.bl false)
          | true =>
            rw [if_pos rfl]
            have s123 := (s1.trans s2).trans s3
            refine ⟨H0, O0, ρ, S.step s123, ?_⟩
            have G' : Got X.K X.mg W O0 σ ρ .s H Q ((h ρ).bind fun w => g2 q w) := G
            revert G'
            cases h ρ with
            | stuck => exact False.elim
            | exc c => exact fun G C H' s' => G C H' (s123.trans s')
            | ok w =>
              intro G v H4 s4 r4
              exact ho' S (s123.trans s4) ((r2.back s1).step (s3.trans s4)) (r4.back s123) (Got.v (hg2 q w) (s123.trans s4) G)
        | _ => exact False.elim
theorem e_chain {op op' : CmpOp} {r r' : R2} {g1 g2 : PV → PV → R PV} (hr : OpR X (compareOp op) r) (hr' : OpR X (compareOp op') r') (hg1 : ∀ p q c, g1 p q ≠ .exc c) (hg2 : ∀ p q c, g2 p q ≠ .exc c) (ho : OpS X.K r .t .t .s g1) (ho' : OpS X.K r' .t .t .s g2)
    (ha : EJ X W .t a f) (hb : EJ X W .t b g) (hc : EJ X W .t c h) (hm : lastMarks [op, op'] [b, c] = false) : EJ X W .s (.Compare a [op, op'] [b, c] pos) (eChain g1 g2 f g h) :=
  pe_imp (pe_chain hr hr' ha hb hc hm) (q_chain hg1 hg2 ho ho')
theorem e_leLt (ha : EJ X W .t a f) (hb : EJ X W .t b g) (hc : EJ X W .t c h) (hm : lastMarks [.LtE, .Lt] [b, c] = false := by with_unfolding_all rfl) : EJ X W .s (.Compare a [.LtE, .Lt] [b, c] pos) (eChain leP ltP f g h) :=
  e_chain op_le op_lt intP_exc intP_exc (s_int0 fun _ _ _ _ => .bl _) (s_int0 fun _ _ _ _ => .bl _) ha hb hc hm
end
end PL
set_option Elab.async false
set_option linter.all false
set_option maxRecDepth 100000
set_option autoImplicit false
namespace PL
open PySem PySem.Spec L2
open PyProof.Rows hiding St
def ixP : PV → PV → R PV
  | .lst l, .int i | .tup l, .int i | .frz l, .int i => match atI l i with
    | some p => .ok p
    | none => .stuck
  | .str s, .int i => if s.length ≤ sizeLine then (match atI s.cps.toList i with
    | some c => .ok (.str ⟨#[c]⟩)
    | none => .stuck) else .stuck
  | _, _ => .stuck
theorem ixP_exc (p q : PV) (c : Str) : ixP p q ≠ .exc c := by
  unfold ixP; split <;> (try split) <;> (try split) <;> exact fun z => nomatch z
theorem reps_at {K : PySem.W.Frag} {H : Hp} {O : Addr → Prop} {vs : List V} {ps : List PV} {i : Int} {p : PV} (r : Reps K H O vs ps) (h : atI ps i = some p) : ∃ v, atI vs i = some v ∧ Rep K H O v p := by
  unfold atI at h ⊢
  rw [r.length]
  cases q : ixN ps.length i with
  | none => rw [q] at h; cases h
  | some j =>
    rw [q, Option.bind_some] at h
    rw [Option.bind_some]
    exact r.get h
theorem s_ix (K : PySem.W.Frag) : OpS K (rIx K) .t .t .s ixP := by
  intro H0 O0 σ ρ H H2 x y p q Q S s rx ry G
  unfold ixP at G
  split at G
  · split at G
    · rename_i p hp
      obtain ⟨a, vs, rfl, h1, r1⟩ := rt_lst rx
      obtain ⟨v, h2, r2⟩ := reps_at r1 hp
      exact .inl ⟨a, vs, _, v, rfl, rt_int ry, .inl (.inl h1), h2, G _ _ (Same.refl _) r2⟩
    · exact G.elim
  · split at G
    · rename_i p hp
      obtain ⟨a, vs, rfl, h1, r1⟩ := rt_tup rx
      obtain ⟨v, h2, r2⟩ := reps_at r1 hp
      exact .inr (.inl ⟨a, vs, _, v, rfl, rt_int ry, sqT_of h1, h2, G _ _ (Same.refl _) r2⟩)
    · exact G.elim
  · split at G
    · rename_i p hp
      obtain ⟨a, ns, rfl, rfl, h1⟩ := rt_frz rx
      obtain ⟨v, h2, r2⟩ := reps_at (K := K) (H := H2) (O := OO O0 σ ρ) (Reps.ofInts ns) hp
      exact .inl ⟨a, _, _, v, rfl, rt_int ry, h1, h2, G _ _ (Same.refl _) r2⟩
    · exact G.elim
  · split at G
    · rename_i hz
      split at G
      · rename_i c hc
        exact .inr (.inr ⟨_, _, c, rt_str rx, rt_int ry, hz, hc, G _ _ (Same.refl _) (.str _)⟩)
      · exact G.elim
    · exact G.elim
  · exact G.elim
def cutG {α : Type} (xs : List α) (lo hi : Option Int) : List α := (xs.drop (HT.sIx xs.length 0 lo)).take (HT.sIx xs.length xs.length hi - HT.sIx xs.length 0 lo)
theorem reps_cut {K : PySem.W.Frag} {H : Hp} {O : Addr → Prop} {vs : List V} {ps : List PV} (lo hi : Option Int) (r : Reps K H O vs ps) : Reps K H O (cutV vs lo hi) (cutG ps lo hi) := by
  unfold cutV cutG
  rw [r.length]
  exact (r.drop _).take _
def slP (p : PV) (lo hi : Option Int) : R PV := match p with
  | .lst l | .frz l => .ok (.lst (cutG l lo hi))
  | .tup l => .ok (.tup (cutG l lo hi))
  | .str s => if s.length ≤ sizeLine then .ok (.str (cutS s lo hi)) else .stuck
  | _ => .stuck
def slL (p : PV) (lo hi : Option Int) : R PV := match p with
  | .lst l | .frz l => .ok (.lst (cutG l lo hi))
  | _ => .stuck
def asI : PV → R Int
  | .int i => .ok i
  | _ => .stuck
def oNone : Rho → R (Option Int) := fun _ => .ok none
def oSome (f : Rho → R PV) : Rho → R (Option Int) := fun ρ => (f ρ).bind fun p => (asI p).bind fun i => .ok (some i)
def eSl (g : PV → Option Int → Option Int → R PV) (f : Rho → R PV) (lo hi : Rho → R (Option Int)) : Rho → R PV := fun ρ => (f ρ).bind fun p => (lo ρ).bind fun l => (hi ρ).bind fun h => g p l h
def tO' (K : PySem.W.Frag) (mg : Str → Option Value) (W : WX) (f : Rho → R (Option Int)) : L2.TO := fun σ H Q =>
  ∃ H0 O0 ρ, StR K H0 O0 H σ ρ ∧ (match f ρ with
    | .ok o => ∀ H', Same H H' → Q o H'
    | .exc c => ∀ C H', Same H H' → mg c = some (.ref C) → W (.ref C) none σ H'
    | .stuck => False)
abbrev OJ (X : Cx) (W : WX) (e : Option Expr) (f : Rho → R (Option Int)) : Prop := PO X e (tO' X.K X.mg W f)
def SlS (K : PySem.W.Frag) (r : V → Option Int → Option Int → Hp → VK → Prop) (m : Md) (g : PV → Option Int → Option Int → R PV) : Prop :=
  ∀ {H0 O0 σ ρ H H2 x p lo hi} {Q : VK}, StR K H0 O0 H σ ρ → Same H H2 → RepM K O0 σ ρ .t H H2 x p → GotV K O0 σ ρ m H H2 Q (g p lo hi) → r x lo hi H2 Q
section
variable {X : Cx} {W : WX} {e a b c : Expr} {pos p2 : Pos} {m : Md} {f g h : Rho → R PV} {lo hi : Option Expr} {fl fh : Rho → R (Option Int)}
theorem po_imp {t t' : L2.TO} {e : Option Expr} (h : PO X e t) (q : ∀ σ H Q, t' σ H Q → t σ H Q) : PO X e t' := ⟨fun pins s σ H Q I hw => h.run pins s σ H Q I (q σ H Q hw)⟩
theorem o_none : OJ X W none oNone := by
  refine po_imp po_none fun σ H Q ⟨H0, O0, ρ, S, G⟩ => ?_
  exact G H (Same.refl H)
theorem o_some (ha : EJ X W .s e f) : OJ X W (some e) (oSome f) := by
  refine po_imp (po_some ha) fun σ H Q ⟨H0, O0, ρ, S, G⟩ => ⟨H0, O0, ρ, S, ?_⟩
  revert G
  unfold oSome
  cases f ρ with
  | stuck => exact False.elim
  | exc c => exact fun G => G
  | ok p =>
    cases p with
    | int i => exact fun G v H' s r => by cases r; exact ⟨i, rfl, G H' s⟩
    | _ => exact False.elim
theorem e_sl {r : V → Option Int → Option Int → Hp → VK → Prop} {g' : PV → Option Int → Option Int → R PV} (hr : SlR X r) (hg : ∀ p l h c, g' p l h ≠ .exc c) (ho : SlS X.K r m g') (ha : EJ X W .t a f) (hl : OJ X W lo fl) (hh : OJ X W hi fh) :
    EJ X W m (.Subscript a (.Slice lo hi none p2) pos) (eSl g' f fl fh) := by
  refine pe_imp (pe_slice hr ha hl hh) fun σ H Q ⟨H0, O0, ρ, S, G⟩ => ⟨H0, O0, ρ, S, ?_⟩
  revert G
  unfold eSl
  cases f ρ with
  | stuck => exact False.elim
  | exc c => exact fun G => G
  | ok p =>
    intro G x H1 s1 r1
    refine ⟨H0, O0, ρ, S.step s1, ?_⟩
    revert G
    rw [R.bind_ok]
    cases fl ρ with
    | stuck => exact False.elim
    | exc c => exact fun G C H' s' => G C H' (s1.trans s')
    | ok l =>
      intro G H2 s2
      refine ⟨H0, O0, ρ, S.step (s1.trans s2), ?_⟩
      revert G
      rw [R.bind_ok]
      cases fh ρ with
      | stuck => exact False.elim
      | exc c => exact fun G C H' s' => G C H' ((s1.trans s2).trans s')
      | ok h =>
        intro G H3 s3
        exact ho S ((s1.trans s2).trans s3) (r1.step (s2.trans s3)) (Got.v (hg p l h) ((s1.trans s2).trans s3) G)
def rSlP (K : PySem.W.Frag) : V → Option Int → Option Int → Hp → VK → Prop := fun x lo hi H Q => rSlL K x lo hi H Q ∨ rSlA K x lo hi H Q ∨ rSlS x lo hi H Q
theorem sl_P : SlR X (rSlP X.K) := sl_list.or (sl_tupA.or sl_str)
theorem slP_exc (p : PV) (l h : Option Int) (c : Str) : slP p l h ≠ .exc c := by
  unfold slP; split <;> (try split) <;> exact fun z => nomatch z
theorem sl_ints (ns : List Int) (lo hi : Option Int) : cutV (ns.map V.int) lo hi = (cutG ns lo hi).map V.int ∧ cutG (ns.map PV.int) lo hi = (cutG ns lo hi).map PV.int := by
  unfold cutV cutG
  rw [List.length_map, List.length_map, List.map_take, List.map_drop, List.map_take, List.map_drop]
  exact ⟨rfl, rfl⟩
theorem s_slL (K : PySem.W.Frag) : SlS K (rSlL K) .f slL := by
  intro H0 O0 σ ρ H H2 x p lo hi Q S s rx G
  unfold slL at G
  split at G
  · obtain ⟨a, vs, rfl, h1, r1⟩ := rt_lst rx
    exact ⟨a, vs, rfl, .inl (.inl h1), fun q hq => G _ _ (same_new hq) (new_lst (H0 := H0) s (reps_cut lo hi r1) hq)⟩
  · obtain ⟨a, ns, rfl, rfl, h1⟩ := rt_frz rx
    refine ⟨a, _, rfl, h1, fun q hq => G _ _ (same_new hq) ?_⟩
    rw [(sl_ints ns lo hi).1, (sl_ints ns lo hi).2]
    exact new_lst (H0 := H0) s (Reps.ofInts _) hq
  · exact G.elim
theorem s_slP (K : PySem.W.Frag) : SlS K (rSlP K) .s slP := by
  intro H0 O0 σ ρ H H2 x p lo hi Q S s rx G
  unfold slP at G
  split at G
  · exact .inl (s_slL K S s rx fun v H' s' r => G v H' s' (RepM.f_s S r))
  · exact .inl (s_slL K S s rx fun v H' s' r => G v H' s' (RepM.f_s S r))
  · obtain ⟨a, vs, rfl, h1, r1⟩ := rt_tup rx
    refine .inr (.inl ⟨a, vs, rfl, sqT_of h1, fun ⟨z1, z2⟩ => ?_, fun _ q hq => G _ _ (same_new hq) (new_tup (H := H) (S.step s) (reps_cut lo hi r1) hq)⟩)
    have e : ∀ {α : Type} (l : List α), l.length = vs.length → cutG l lo hi = l := fun l hl => by
      unfold cutG
      rw [hl, z1, z2, List.drop_zero, Nat.sub_zero, ← hl, List.take_length]
    rw [e _ r1.length.symm] at G
    exact G _ _ (Same.refl _) (.tup h1 r1)
  · split at G
    · rename_i hz
      exact .inr (.inr ⟨_, rt_str rx, hz, G _ _ (Same.refl _) (.str _)⟩)
    · exact G.elim
  · exact G.elim
theorem e_slice (ha : EJ X W .t a f) (hl : OJ X W lo fl) (hh : OJ X W hi fh) : EJ X W .s (.Subscript a (.Slice lo hi none p2) pos) (eSl slP f fl fh) := e_sl sl_P slP_exc (s_slP _) ha hl hh
theorem e_item (ha : EJ X W .t a f) (hb : EJ X W .t b g) (hs : PlainIx b) : EJ X W .s (.Subscript a b pos) (e2 ixP f g) := e_ix ix_seq ixP_exc (s_ix _) ha hb hs
end
def lenP : List PV → R PV
  | [.lst l] | [.tup l] | [.frz l] => .ok (.int l.length)
  | [.str s] => if s.length ≤ sizeLine then .ok (.int s.length) else .stuck
  | _ => .stuck
def absP : List PV → R PV
  | [.int i] => .ok (.int (if i < 0 then -i else i))
  | _ => .stuck
def maxP : List PV → R PV
  | [.int i, .int j] => .ok (.int (if j > i then j else i))
  | _ => .stuck
def minP : List PV → R PV
  | [.int i, .int j] => .ok (.int (if j < i then j else i))
  | _ => .stuck
def listP : List PV → R PV
  | [.lst l] | [.tup l] | [.frz l] => .ok (.lst l)
  | _ => .stuck
def tupleP : List PV → R PV
  | [.lst l] | [.tup l] | [.frz l] => .ok (.tup l)
  | _ => .stuck
def asBs : List PV → Option (List Bool)
  | [] => some []
  | .bl b :: r => (asBs r).map (b :: ·)
  | _ => none
def allP : List PV → R PV
  | [.lst l] => match asBs l with
    | some bs => .ok (.bl (bs.all id))
    | none => .stuck
  | _ => .stuck
def divmodP : List PV → R PV
  | [.int i, .int j] => if 0 < j ∧ j.natAbs.log2 < 9000 then .ok (.tup [.int (i / j), .int (i % j)]) else .stuck
  | _ => .stuck
theorem asBs_map : ∀ {l : List PV} {bs : List Bool}, asBs l = some bs → l = bs.map PV.bl
  | [], _, h => by cases h; rfl
  | .bl b :: r, bs, h => by
    unfold asBs at h
    obtain ⟨cs, h1, rfl⟩ := Option.map_eq_some_iff.mp h
    rw [asBs_map h1]; rfl
  | .non :: _, _, h | .int _ :: _, _, h | .str _ :: _, _, h | .tup _ :: _, _, h | .lst _ :: _, _, h | .frz _ :: _, _, h | .dct :: _, _, h | .dt _ :: _, _, h | .obj _ _ _ :: _, _, h => by simp [asBs] at h
theorem asBs_of : ∀ bs : List Bool, asBs (bs.map PV.bl) = some bs
  | [] => rfl
  | b :: bs => by simp [asBs, asBs_of bs]
section
variable {X : Cx} {W : WX}
theorem pr1 {F : V → PV → Prop} {vs : List V} {p : PV} (h : Paired F vs [p]) : ∃ v, vs = [v] ∧ F v p := by
  cases h with
  | cons a r => cases r; exact ⟨_, rfl, a⟩
theorem pr2 {F : V → PV → Prop} {vs : List V} {p q : PV} (h : Paired F vs [p, q]) : ∃ v w, vs = [v, w] ∧ F v p ∧ F w q := by
  cases h with
  | cons a r =>
    obtain ⟨w, rfl, b⟩ := pr1 r
    exact ⟨_, _, rfl, a, b⟩
theorem s_len (K : PySem.W.Frag) : CallS K (fun xs H Q => ∃ x n, xs = [x] ∧ LenV K x H n ∧ Q (.int n) H) .t .s lenP := by
  intro H0 O0 σ ρ H H2 xs ps Q S s r G
  unfold lenP at G
  split at G
  · obtain ⟨v, rfl, r1⟩ := pr1 r
    obtain ⟨a, vs, rfl, h1, r2⟩ := rt_lst r1
    exact ⟨_, vs.length, rfl, .inl ⟨vs, .inl (.inl h1), rfl⟩, by rw [r2.length]; exact G _ _ (Same.refl _) (.int _)⟩
  · obtain ⟨v, rfl, r1⟩ := pr1 r
    obtain ⟨a, vs, rfl, h1, r2⟩ := rt_tup r1
    exact ⟨_, vs.length, rfl, .inr ⟨vs, sqT_of h1, rfl⟩, by rw [r2.length]; exact G _ _ (Same.refl _) (.int _)⟩
  · obtain ⟨v, rfl, r1⟩ := pr1 r
    obtain ⟨a, ns, rfl, rfl, h1⟩ := rt_frz r1
    refine ⟨_, _, rfl, .inl ⟨_, h1, rfl⟩, ?_⟩
    rw [List.length_map] at G ⊢
    exact G _ _ (Same.refl _) (.int _)
  · split at G
    · rename_i hz
      obtain ⟨v, rfl, r1⟩ := pr1 r
      rw [rt_str r1]
      exact ⟨_, _, rfl, ⟨hz, rfl⟩, G _ _ (Same.refl _) (.int _)⟩
    · exact G.elim
  · exact G.elim
theorem s_abs (K : PySem.W.Frag) : CallS K (fun xs H Q => ∃ i, xs = [.int i] ∧ Q (.int (if i < 0 then -i else i)) H) .t .s absP := by
  intro H0 O0 σ ρ H H2 xs ps Q S s r G
  unfold absP at G
  split at G
  · obtain ⟨v, rfl, r1⟩ := pr1 r
    rw [rt_int r1]; exact ⟨_, rfl, G _ _ (Same.refl _) (.int _)⟩
  · exact G.elim
theorem s_max (K : PySem.W.Frag) : CallS K (fun xs H Q => ∃ i j, xs = [.int i, .int j] ∧ Q (.int (if j > i then j else i)) H) .t .s maxP := by
  intro H0 O0 σ ρ H H2 xs ps Q S s r G
  unfold maxP at G
  split at G
  · obtain ⟨v, w, rfl, r1, r2⟩ := pr2 r
    rw [rt_int r1, rt_int r2]; exact ⟨_, _, rfl, G _ _ (Same.refl _) (.int _)⟩
  · exact G.elim
theorem s_min (K : PySem.W.Frag) : CallS K (fun xs H Q => ∃ i j, xs = [.int i, .int j] ∧ Q (.int (if j < i then j else i)) H) .t .s minP := by
  intro H0 O0 σ ρ H H2 xs ps Q S s r G
  unfold minP at G
  split at G
  · obtain ⟨v, w, rfl, r1, r2⟩ := pr2 r
    rw [rt_int r1, rt_int r2]; exact ⟨_, _, rfl, G _ _ (Same.refl _) (.int _)⟩
  · exact G.elim
theorem s_tuple (K : PySem.W.Frag) : CallS K (fun xs H Q => ∃ p ys, xs = [.ref p] ∧ ((SqL K H p ys ∧ ∀ l, H l = none → Q (.ref l) (upd H l (.tup ys))) ∨ (SqT K H p ys ∧ Q (.ref p) H))) .t .s tupleP := by
  intro H0 O0 σ ρ H H2 xs ps Q S s r G
  unfold tupleP at G
  split at G
  · obtain ⟨v, rfl, r1⟩ := pr1 r
    obtain ⟨a, vs, rfl, h1, r2⟩ := rt_lst r1
    exact ⟨a, vs, rfl, .inl ⟨.inl (.inl h1), fun l hl => G _ _ (same_new hl) (new_tup (H := H) (S.step s) r2 hl)⟩⟩
  · obtain ⟨v, rfl, r1⟩ := pr1 r
    obtain ⟨a, vs, rfl, h1, r2⟩ := rt_tup r1
    exact ⟨a, vs, rfl, .inr ⟨sqT_of h1, G _ _ (Same.refl _) (.tup h1 r2)⟩⟩
  · obtain ⟨v, rfl, r1⟩ := pr1 r
    obtain ⟨a, ns, rfl, rfl, h1⟩ := rt_frz r1
    exact ⟨a, _, rfl, .inl ⟨h1, fun l hl => G _ _ (same_new hl) (new_tup (H := H) (S.step s) (Reps.ofInts ns) hl)⟩⟩
  · exact G.elim
theorem s_all (K : PySem.W.Frag) : CallS K (rAll K) .t .s allP := by
  intro H0 O0 σ ρ H H2 xs ps Q S s r G
  unfold allP at G
  split at G
  · split at G
    · rename_i bs hbs
      obtain ⟨v, rfl, r1⟩ := pr1 r
      rw [asBs_map hbs] at r1
      obtain ⟨a, vs, rfl, h1, r2⟩ := rt_lst r1
      rw [r2.bls] at h1
      exact ⟨a, bs, rfl, .inl (.inl h1), G _ _ (Same.refl _) (.bl _)⟩
    · exact G.elim
  · exact G.elim
theorem noPy {i j : Int} (h : j.natAbs.log2 < 9000) : Builtin.divisionGoesByPylong i j = false := PyProof.noPylong_of_log2 h
theorem s_divmod (K : PySem.W.Frag) : CallS K (fun xs H Q => ∃ i j, xs = [.int i, .int j] ∧ CDivP i j ∧ ∀ p, H p = none → Q (.ref p) (upd H p (.tup [.int (i / j), .int (i % j)]))) .t .s divmodP := by
  intro H0 O0 σ ρ H H2 xs ps Q S s r G
  unfold divmodP at G
  split at G
  · split at G
    · rename_i hz
      obtain ⟨v, w, rfl, r1, r2⟩ := pr2 r
      rw [rt_int r1, rt_int r2]
      exact ⟨_, _, rfl, ⟨hz.1, noPy hz.2⟩, fun l hl => G _ _ (same_new hl) (new_tup (H := H) (S.step s) (.cons (.int _) (.cons (.int _) .nil)) hl)⟩
    · exact G.elim
  · exact G.elim
theorem lenP_exc (ps : List PV) (c : Str) : lenP ps ≠ .exc c := by unfold lenP; split <;> (try split) <;> exact fun z => nomatch z
theorem absP_exc (ps : List PV) (c : Str) : absP ps ≠ .exc c := by unfold absP; split <;> exact fun z => nomatch z
theorem maxP_exc (ps : List PV) (c : Str) : maxP ps ≠ .exc c := by unfold maxP; split <;> exact fun z => nomatch z
theorem minP_exc (ps : List PV) (c : Str) : minP ps ≠ .exc c := by unfold minP; split <;> exact fun z => nomatch z
theorem tupleP_exc (ps : List PV) (c : Str) : tupleP ps ≠ .exc c := by unfold tupleP; split <;> exact fun z => nomatch z
theorem allP_exc (ps : List PV) (c : Str) : allP ps ≠ .exc c := by unfold allP; split <;> (try split) <;> exact fun z => nomatch z
theorem divmodP_exc (ps : List PV) (c : Str) : divmodP ps ≠ .exc c := by unfold divmodP; split <;> (try split) <;> exact fun z => nomatch z
variable {e : Expr} {es : List Expr} {pos p : Pos} {fA : Rho → R (List PV)} {f : Rho → R PV}
theorem e_len (mg : X.mg "len" = none) (hg : Gl X "len") (ha : AJ X W .t [e] fA) (he : starEach [e] X.env = (false, eval e X.env) :: starEach [] X.env := by rfl) : EJ X W .s (.Call (.Name "len" p) [e] [] pos) (eD lenP fA) := e_callB call_len lenP_exc (s_len _) hg mg PySem.boot_len ha (he := he)
theorem e_abs (mg : X.mg "abs" = none) (hg : Gl X "abs") (ha : AJ X W .t [e] fA) (he : starEach [e] X.env = (false, eval e X.env) :: starEach [] X.env := by rfl) : EJ X W .s (.Call (.Name "abs" p) [e] [] pos) (eD absP fA) := e_callB call_abs absP_exc (s_abs _) hg mg (by decide +kernel) ha (he := he)
theorem e_tuple (mg : X.mg "tuple" = none) (hg : Gl X "tuple") (ha : AJ X W .t [e] fA) (he : starEach [e] X.env = (false, eval e X.env) :: starEach [] X.env := by rfl) : EJ X W .s (.Call (.Name "tuple" p) [e] [] pos) (eD tupleP fA) := e_callTy call_tuple_of tupleP_exc (s_tuple _) hg mg (by decide +kernel) ha (he := he)
theorem e_all (hc : X.calm = true) (mg : X.mg "all" = none) (hg : Gl X "all") (ha : AJ X W .t [e] fA) (he : starEach [e] X.env = (false, eval e X.env) :: starEach [] X.env := by rfl) : EJ X W .s (.Call (.Name "all" p) [e] [] pos) (eD allP fA) := e_callB (cr_all hc) allP_exc (s_all _) hg mg (by decide +kernel) ha (he := he)
theorem e_max2 (hc : X.calm = true) {e' : Expr} (mg : X.mg "max" = none) (hg : Gl X "max") (ha : AJ X W .t [e, e'] fA) (he : starEach [e, e'] X.env = (false, eval e X.env) :: starEach [e'] X.env := by rfl) (hpl : (backTo pos (starEach [e'] X.env)).any (·.1) = false := by rfl) : EJ X W .s (.Call (.Name "max" p) [e, e'] [] pos) (eD maxP fA) := e_callB (call_max2 hc) maxP_exc (s_max _) hg mg (by decide +kernel) ha (he := he) (hpl := hpl)
theorem e_min2 (hc : X.calm = true) {e' : Expr} (mg : X.mg "min" = none) (hg : Gl X "min") (ha : AJ X W .t [e, e'] fA) (he : starEach [e, e'] X.env = (false, eval e X.env) :: starEach [e'] X.env := by rfl) (hpl : (backTo pos (starEach [e'] X.env)).any (·.1) = false := by rfl) : EJ X W .s (.Call (.Name "min" p) [e, e'] [] pos) (eD minP fA) := e_callB (call_min2 hc) minP_exc (s_min _) hg mg (by decide +kernel) ha (he := he) (hpl := hpl)
theorem e_divmod {e' : Expr} (mg : X.mg "divmod" = none) (hg : Gl X "divmod") (ha : AJ X W .t [e, e'] fA) (he : starEach [e, e'] X.env = (false, eval e X.env) :: starEach [e'] X.env := by rfl) (hpl : (backTo pos (starEach [e'] X.env)).any (·.1) = false := by rfl) : EJ X W .s (.Call (.Name "divmod" p) [e, e'] [] pos) (eD divmodP fA) := e_callB call_divmodW divmodP_exc (s_divmod _) hg mg (by decide +kernel) ha (he := he) (hpl := hpl)
def tyN : PV → String
  | .non => "NoneType" | .bl _ => "bool" | .int _ => "int" | .str _ => "str" | .tup _ => "tuple" | .lst _ => "list" | .frz _ => "list" | .dct => "dict" | .dt _ => "dict" | .obj _ _ _ => ""
def kitP (p : PV) (n : String) : Option Bool := match p with
  | .obj _ _ _ => if n ∈ (["int", "bool", "str", "tuple", "list", "dict"] : List String) then some false else none
  | p => kitB (tyN p) n
def isiP (n : String) (p : PV) : R PV := match kitP p n with
  | some b => .ok (.bl b)
  | none => .stuck
theorem rt_ty {K : PySem.W.Frag} {H H2 : Hp} {O0 : Addr → Prop} {σ : St} {ρ : Rho} {x : V} {p : PV} (r : RepM K O0 σ ρ .t H H2 x p) : ∃ T, TyX K H2 x T ∧ ∀ n b, kitP p n = some b → PySem.W.kitOne K T (.type n) = some b := by
  have kt : ∀ {t : String} {q : PV}, (∀ C ns fs, q ≠ .obj C ns fs) → tyN q = t → ∀ n b, kitP q n = some b → PySem.W.kitOne K (.type t) (.type n) = some b := fun {t q} hq ht n b h => by
    subst ht
    refine kit_ty ?_
    unfold kitP at h
    split at h
    · exact absurd rfl (hq _ _ _)
    · exact h
  rcases r with r | ⟨a, vs, ps, rfl, rfl, e3, e4⟩
  · cases r with
    | non => exact ⟨_, .base .non, kt (fun _ _ _ z => nomatch z) rfl⟩
    | bl b => exact ⟨_, .base (.bl b), kt (fun _ _ _ z => nomatch z) rfl⟩
    | int i => exact ⟨_, .base (.int i), kt (fun _ _ _ z => nomatch z) rfl⟩
    | str i => exact ⟨_, .base (.str i), kt (fun _ _ _ z => nomatch z) rfl⟩
    | lst h _ _ => exact ⟨_, .base (.lst h), kt (fun _ _ _ z => nomatch z) rfl⟩
    | tup h _ =>
      rcases h with ⟨h, _⟩ | ⟨o, its, n, h1, h2, _⟩
      · exact ⟨_, .base (.tup h), kt (fun _ _ _ z => nomatch z) rfl⟩
      · exact ⟨_, .kTuple h1 h2, kt (fun _ _ _ z => nomatch z) rfl⟩
    | frz h =>
      rcases h with ⟨⟨o, h⟩, _⟩ | h
      · exact ⟨_, .base (.frz h), kt (fun _ _ _ z => nomatch z) rfl⟩
      · rcases h fun _ => none with (h | ⟨_, h⟩) | ⟨o, its, n, h1, h2, _⟩
        · cases h
        · cases h
        · exact ⟨_, .kList h1 h2, kt (fun _ _ _ z => nomatch z) rfl⟩
    | dct h _ => exact ⟨_, .base (.dK h), kt (fun _ _ _ z => nomatch z) rfl⟩
    | dt h _ => exact ⟨_, .base (.dT h), kt (fun _ _ _ z => nomatch z) rfl⟩
    | obj h _ _ c _ =>
      refine ⟨_, .base (.ins h c.cl c.ha c.hn c.ht c.hm), fun n b h => ?_⟩
      unfold kitP at h
      dsimp only at h
      split at h
      · rename_i hn; cases h; exact c.kit n hn
      · cases h
  · exact ⟨_, .base (.lst e3), kt (fun _ _ _ z => nomatch z) rfl⟩
theorem e_isi {n : String} {en : Expr} (mg : X.mg "isinstance" = none) (hg : Gl X "isinstance") (ha : EJ X W .t e f) (hn : PE X en (tC (.ty n))) (he : starEach [e, en] X.env = (false, eval e X.env) :: starEach [en] X.env := by rfl) (he2 : starEach [en] X.env = (false, eval en X.env) :: starEach [] X.env := by rfl) (hpl : (backTo pos (starEach [en] X.env)).any (·.1) = false := by rfl) :
    EJ X W .s (.Call (.Name "isinstance" p) [e, en] [] pos) (e1 (isiP n) f) := by
  refine pe_imp (pe_callB call_isi hg mg PyProof.Rows.boot_isinstance (pa_cons ha (pa_cons hn pa_nil he2) he) (by decide) (by decide) he hpl) fun σ H Q ⟨H0, O0, ρ, S, G⟩ => ⟨H0, O0, ρ, S, ?_⟩
  revert G
  unfold e1
  cases f ρ with
  | stuck => exact False.elim
  | exc c => exact fun G => G
  | ok q =>
    intro G x H1 s1 r1
    rw [R.bind_ok] at G
    unfold isiP at G
    split at G
    · rename_i b hb
      obtain ⟨T, t1, t2⟩ := rt_ty r1
      exact ⟨x, .ty n, _, _, b, rfl, .ty n, t1, t2 _ _ hb, G _ _ s1 (.bl b)⟩
    · exact G.elim
def isiP2 (n m : String) (p : PV) : R PV := match kitP p n, kitP p m with
  | some b, some c => .ok (.bl (b || c))
  | _, _ => .stuck
theorem e_isi2 {n m : String} {en em : Expr} {pt : Pos} {k : Nat} (mg : X.mg "isinstance" = none) (hg : Gl X "isinstance") (ha : EJ X W .t e f) (hn : PE X en (tC (.ty n))) (hm : PE X em (tC (.ty m))) (he : starEach [e, .Tuple [en, em] k pt] X.env = (false, eval e X.env) :: starEach [.Tuple [en, em] k pt] X.env := by rfl)
    (he2 : starEach [.Tuple [en, em] k pt] X.env = (false, eval (.Tuple [en, em] k pt) X.env) :: starEach [] X.env := by rfl) (he3 : starEach [en, em] X.env = (false, eval en X.env) :: starEach [em] X.env := by rfl) (he4 : starEach [em] X.env = (false, eval em X.env) :: starEach [] X.env := by rfl) (hpl : (backTo pos (starEach [.Tuple [en, em] k pt] X.env)).any (·.1) = false := by rfl) :
    EJ X W .s (.Call (.Name "isinstance" p) [e, .Tuple [en, em] k pt] [] pos) (e1 (isiP2 n m) f) := by
  refine pe_imp (pe_callB call_isiT hg mg PyProof.Rows.boot_isinstance (pa_cons ha (pa_cons (pe_tup (pa_cons hn (pa_cons hm pa_nil he4) he3)) pa_nil he2) he) (by decide) (by decide) he hpl) fun σ H Q ⟨H0, O0, ρ, S, G⟩ => ⟨H0, O0, ρ, S, ?_⟩
  revert G
  unfold e1
  cases f ρ with
  | stuck => exact False.elim
  | exc c => exact fun G => G
  | ok q =>
    intro G x H1 s1 r1
    rw [R.bind_ok] at G
    unfold isiP2 at G
    split at G
    · rename_i b c hb hc
      refine ⟨by show 2 ≤ sizeLine; decide, fun t ht => ?_⟩
      obtain ⟨T, t1, t2⟩ := rt_ty (r1.step (same_new ht))
      refine ⟨x, t, [.ty n, .ty m], _, [.type n, .type m], b || c, rfl, upd_same, .cons (.ty n) (.cons (.ty m) .nil), t1, kitAny_cons (t2 _ _ hb) (fun e => ?_) (fun e => by rw [e]; rfl), G _ _ (s1.trans (same_new ht)) (.bl _)⟩
      rw [e, Bool.false_or]
      exact kitAny_cons (t2 _ _ hc) (fun e => by rw [e]; exact kitAny_nil) fun e => e
    · exact G.elim
end
end PL
set_option Elab.async false
set_option linter.all false
set_option maxRecDepth 100000
set_option autoImplicit false
namespace PL
open PySem PySem.Spec L2
open PyProof.Rows hiding St
def Kept (O : Addr → Prop) (H : Hp) (O' : Addr → Prop) (H' : Hp) : Prop := ∀ a o, H a = some o → ¬ O a → H' a = some o ∧ ¬ O' a
theorem Kept.refl (O : Addr → Prop) (H : Hp) : Kept O H O H := fun _ _ h n => ⟨h, n⟩
theorem Kept.trans {O O1 O2 : Addr → Prop} {H H1 H2 : Hp} (a : Kept O H O1 H1) (b : Kept O1 H1 O2 H2) : Kept O H O2 H2 := fun c o h n => b c o (a c o h n).1 (a c o h n).2
theorem Kept.same {O : Addr → Prop} {H H' : Hp} (s : Same H H') : Kept O H O H' := fun a o h n => ⟨s a o h, n⟩
structure ItOk (K : PySem.W.Frag) (J : It) (items : List PV) (O1 : Addr → Prop) (H1 : Hp) : Prop where
  go : ∀ i H O, Kept O1 H1 O H → i < items.length → J.go i H
  stop : ∀ i H O, Kept O1 H1 O H → items.length ≤ i → J.stop i H
  yld : ∀ i H O x H' p, Kept O1 H1 O H → (∀ a, O a → H a ≠ none) → items[i]? = some p → J.yld i H x H' → Same H H' ∧ Rep K H' O x p
def GotI (K : PySem.W.Frag) (mg : Str → Option Value) (W : WX) (O0 : Addr → Prop) (σ : St) (ρ : Rho) (H : Hp) (Q : It → Hp → Prop) : R (List PV) → Prop
  | .ok items => ∀ J H', Same H H' → ItOk K J items (OO O0 σ ρ) H' → Q J H'
  | .exc c => ∀ C H', Same H H' → mg c = some (.ref C) → W (.ref C) none σ H'
  | .stuck => False
def tI (K : PySem.W.Frag) (mg : Str → Option Value) (W : WX) (f : Rho → R (List PV)) : TI := fun σ H Q =>
  ∃ H0 O0 ρ, StR K H0 O0 H σ ρ ∧ GotI K mg W O0 σ ρ H Q (f ρ)
abbrev IJ (X : Cx) (W : WX) (tg it : Expr) (f : Rho → R (List PV)) : Prop := PI X tg it (tI X.K X.mg W f)
section
variable {X : Cx} {W : WX} {e e' e'' tg : Expr} {pos p : Pos} {f : Rho → R PV} {fA : Rho → R (List PV)} {K : PySem.W.Frag}
theorem pi_imp {t t' : TI} (h : PI X tg e t) (q : ∀ σ H Q, t' σ H Q → t σ H Q) : PI X tg e t' := ⟨fun pins s σ H Q I hw => h.run pins s σ H Q I (q σ H Q hw)⟩
/-- the items of a list, a tuple -/
def asL : PV → R (List PV)
  | .lst l | .frz l => .ok l
  | _ => .stuck
def asS : PV → R (List PV)
  | .lst l | .frz l | .tup l => .ok l
  | _ => .stuck
def iRv (f : Rho → R PV) : Rho → R (List PV) := fun ρ => (f ρ).bind fun p => (asS p).bind fun l => .ok l.reverse
theorem kept_reps {H H1 : Hp} {O O1 : Addr → Prop} (k : Kept O1 H1 O H) {v : V} {p : PV} (r : Rep K H1 O1 v p) : Rep K H O v p := r.mono k
theorem lst_it {H1 : Hp} {O1 : Addr → Prop} {a : Addr} {l : List PV} (r : Rep K H1 O1 (.ref a) (.lst l)) : ItOk K (Itl K a) l O1 H1 ∧ ∃ xs, SqL K H1 a xs := by
  cases r with
  | @lst _ vs _ h n r =>
    refine ⟨⟨fun i H O k hi => ?_, fun i H O k hi => ⟨vs, .inl (.inl (k _ _ h n).1), by rw [r.length]; exact hi⟩, fun i H O x H' p k _ hp hy => ?_⟩, vs, .inl (.inl h)⟩
    · obtain ⟨v, hv, _⟩ := r.get (List.getElem?_eq_getElem hi)
      exact ⟨vs, v, .inl (.inl (k _ _ h n).1), hv⟩
    · obtain ⟨rfl, hx⟩ := hy
      obtain ⟨q, hq, rq⟩ := r.get' (hx vs (.inl (.inl (k _ _ h n).1)))
      rw [hp] at hq; cases hq
      exact ⟨Same.refl _, kept_reps k rq⟩
theorem frz_it {H1 : Hp} {O1 : Addr → Prop} {a : Addr} {l : List PV} (r : Rep K H1 O1 (.ref a) (.frz l)) : ItOk K (Itl K a) l O1 H1 ∧ ∃ xs, SqL K H1 a xs := by
  generalize hl : PV.frz l = q at r
  cases r with
  | @frz _ ns h =>
    cases hl
    have sq : ∀ H O, Kept O1 H1 O H → SqL K H a (ns.map V.int) := fun H O k => by
      rcases h with ⟨⟨o, h⟩, n⟩ | h
      · exact .inl (.inr ⟨o, (k _ _ h n).1⟩)
      · exact h _
    refine ⟨⟨fun i H O k hi => ?_, fun i H O k hi => ⟨_, sq H O k, by simpa using hi⟩, fun i H O x H' p k _ hp hy => ?_⟩, _, sq _ _ (Kept.refl _ _)⟩
    · rw [List.length_map] at hi
      exact ⟨_, .int ns[i], sq H O k, by rw [List.getElem?_map, List.getElem?_eq_getElem hi]; rfl⟩
    · obtain ⟨rfl, hx⟩ := hy
      have hx := hx _ (sq _ O k)
      rw [List.getElem?_map] at hp hx
      cases hn : ns[i]? with
      | none => rw [hn] at hp; cases hp
      | some n =>
        rw [hn] at hp hx
        cases hp; cases hx
        exact ⟨Same.refl _, .int n⟩
  | _ => cases hl
theorem tup_it {H1 : Hp} {O1 : Addr → Prop} {a : Addr} {l : List PV} (r : Rep K H1 O1 (.ref a) (.tup l)) : ItOk K (Itt K a) l O1 H1 ∧ ∃ xs, SqT K H1 a xs := by
  cases r with
  | @tup _ vs _ h r =>
    have sq : ∀ H O, Kept O1 H1 O H → SqT K H a vs := fun H O k => by
      rcases h with ⟨h, n⟩ | h
      · exact .inl (.inl (k _ _ h n).1)
      · exact h.sq
    refine ⟨⟨fun i H O k hi => ?_, fun i H O k hi => ⟨vs, sq H O k, by rw [r.length]; exact hi⟩, fun i H O x H' p k _ hp hy => ?_⟩, vs, sq _ _ (Kept.refl _ _)⟩
    · obtain ⟨v, hv, _⟩ := r.get (List.getElem?_eq_getElem hi)
      exact ⟨vs, v, sq H O k, hv⟩
    · obtain ⟨rfl, hx⟩ := hy
      obtain ⟨q, hq, rq⟩ := r.get' (hx vs (sq _ O k))
      rw [hp] at hq; cases hq
      exact ⟨Same.refl _, kept_reps k rq⟩
/-- a PI by either of two readings -/
theorem pi_or {w1 w2 : TI} (h1 : PI X tg e w1) (h2 : PI X tg e w2) : PI X tg e (fun σ H R => w1 σ H R ∨ w2 σ H R) := ⟨fun pins s σ H R I hw => by
  rcases hw with hw | hw
  · exact h1.run pins s σ H R I hw
  · exact h2.run pins s σ H R I hw⟩
def iS (f : Rho → R PV) : Rho → R (List PV) := fun ρ => (f ρ).bind asS
theorem ref_of {H1 : Hp} {O1 : Addr → Prop} {v : V} {p : PV} (r : Rep K H1 O1 v p) (h : (∃ l, p = .lst l) ∨ (∃ l, p = .frz l) ∨ ∃ l, p = .tup l) : ∃ a, v = .ref a := by
  rcases h with ⟨l, rfl⟩ | ⟨l, rfl⟩ | ⟨l, rfl⟩
  · cases r; exact ⟨_, rfl⟩
  · generalize hl : PV.frz l = q at r
    cases r with
    | frz h => exact ⟨_, rfl⟩
    | _ => cases hl
  · cases r; exact ⟨_, rfl⟩
/-- a list or a tuple, walked -/
theorem i_seq (he : EJ X W .s e f) : IJ X W tg e (iS f) := by
  refine pi_imp (pi_or (L2.pi_list he) (L2.pi_tup he)) fun σ H Q ⟨H0, O0, ρ, S, G⟩ => ?_
  revert G
  unfold iS
  cases hf : f ρ with
  | stuck => exact False.elim
  | exc c => exact fun G => .inl ⟨H0, O0, ρ, S, by rw [hf]; exact G⟩
  | ok p =>
    cases p with
    | lst l =>
      intro G
      refine .inl ⟨H0, O0, ρ, S, ?_⟩
      rw [hf]
      intro v H1 s1 r1
      obtain ⟨a, rfl⟩ := ref_of r1 (.inl ⟨l, rfl⟩)
      obtain ⟨h1, h2⟩ := lst_it r1
      exact ⟨a, rfl, h2, G _ _ s1 h1⟩
    | frz l =>
      intro G
      refine .inl ⟨H0, O0, ρ, S, ?_⟩
      rw [hf]
      intro v H1 s1 r1
      obtain ⟨a, rfl⟩ := ref_of r1 (.inr (.inl ⟨l, rfl⟩))
      obtain ⟨h1, h2⟩ := frz_it r1
      exact ⟨a, rfl, h2, G _ _ s1 h1⟩
    | tup l =>
      intro G
      refine .inr ⟨H0, O0, ρ, S, ?_⟩
      rw [hf]
      intro v H1 s1 r1
      obtain ⟨a, rfl⟩ := ref_of r1 (.inr (.inr ⟨l, rfl⟩))
      obtain ⟨h1, h2⟩ := tup_it r1
      exact ⟨a, rfl, h2, G _ _ s1 h1⟩
    | _ => exact False.elim
theorem rev_ix {α : Type} {l : List α} {i : Nat} (h : i < l.length) : l.reverse[i]? = l[l.length - 1 - i]? := List.getElem?_reverse h
theorem i_rev (mg : X.mg "reversed" = none) (hg : Gl X "reversed") (he : EJ X W .s e f) (hs : starEach [e] X.env = (false, eval e X.env) :: starEach [] X.env := by rfl) : IJ X W tg (.Call (.Name "reversed" p) [e] [] pos) (iRv f) := by
  refine pi_imp (RT.pi_revA hg mg he hs) fun σ H Q ⟨H0, O0, ρ, S, G⟩ => ⟨H0, O0, ρ, S, ?_⟩
  revert G
  unfold iRv
  cases hf : f ρ with
  | stuck => exact False.elim
  | exc c => exact fun G => G
  | ok p =>
    cases p with
    | lst l =>
      intro G v H1 s1 r1
      cases (show Rep X.K H1 (OO O0 σ ρ) v (.lst l) from r1) with
      | @lst a vs _ h n r =>
        refine ⟨a, vs, rfl, .inl ⟨.inl (.inl h), G _ _ s1 ⟨fun i H O k hi => ?_, fun i H O k hi => ?_, fun i H O x H' p k _ hp hy => ?_⟩⟩⟩
        · rw [List.length_reverse] at hi
          refine ⟨by rw [r.length]; exact hi, vs, vs[vs.length - 1 - i]'(by rw [r.length]; omega), .inl (.inl (k _ _ h n).1), List.getElem?_eq_getElem _⟩
        · rw [List.length_reverse] at hi
          show vs.length ≤ i
          rw [r.length]; exact hi
        · obtain ⟨rfl, hx⟩ := hy
          have hi : i < l.length := by
            have := (List.getElem?_eq_some_iff.mp hp).1
            simpa using this
          rw [rev_ix hi] at hp
          obtain ⟨q, hq, rq⟩ := r.get' (hx vs (.inl (.inl (k _ _ h n).1)))
          rw [r.length] at hq
          rw [hp] at hq; cases hq
          exact ⟨Same.refl _, kept_reps k rq⟩
    | tup l =>
      intro G v H1 s1 r1
      cases (show Rep X.K H1 (OO O0 σ ρ) v (.tup l) from r1) with
      | @tup a vs _ h r =>
        have sq : ∀ H O, Kept (OO O0 σ ρ) H1 O H → SqT X.K H a vs := fun H O k => by
          rcases h with ⟨h, n⟩ | h
          · exact .inl (.inl (k _ _ h n).1)
          · exact h.sq
        refine ⟨a, vs, rfl, .inr ⟨sq _ _ (Kept.refl _ _), G _ _ s1 ⟨fun i H O k hi => ?_, fun i H O k hi => ?_, fun i H O x H' p k _ hp hy => ?_⟩⟩⟩
        · rw [List.length_reverse] at hi
          refine ⟨by rw [r.length]; exact hi, vs, vs[vs.length - 1 - i]'(by rw [r.length]; omega), sq H O k, List.getElem?_eq_getElem _⟩
        · rw [List.length_reverse] at hi
          show vs.length ≤ i
          rw [r.length]; exact hi
        · obtain ⟨rfl, hx⟩ := hy
          have hi : i < l.length := by
            have := (List.getElem?_eq_some_iff.mp hp).1
            simpa using this
          rw [rev_ix hi] at hp
          obtain ⟨q, hq, rq⟩ := r.get' (hx vs (sq _ O k))
          rw [r.length] at hq
          rw [hp] at hq; cases hq
          exact ⟨Same.refl _, kept_reps k rq⟩
    | frz l =>
      intro G v H1 s1 r1
      obtain ⟨a, rfl⟩ := ref_of r1 (.inr (.inl ⟨l, rfl⟩))
      generalize hl : PV.frz l = q at r1
      cases (show Rep X.K H1 (OO O0 σ ρ) (.ref a) q from r1) with
      | @frz a ns h =>
        cases hl
        have sq : ∀ H O, Kept (OO O0 σ ρ) H1 O H → SqL X.K H a (ns.map V.int) := fun H O k => by
          rcases h with ⟨⟨o, h⟩, n⟩ | h
          · exact .inl (.inr ⟨o, (k _ _ h n).1⟩)
          · exact h _
        refine ⟨a, _, rfl, .inl ⟨sq _ _ (Kept.refl _ _), G _ _ s1 ⟨fun i H O k hi => ?_, fun i H O k hi => ?_, fun i H O x H' p k _ hp hy => ?_⟩⟩⟩
        · rw [List.length_reverse, List.length_map] at hi
          refine ⟨by rw [List.length_map]; exact hi, _, (ns.map V.int)[(ns.map V.int).length - 1 - i]'(by rw [List.length_map]; omega), sq H O k, List.getElem?_eq_getElem _⟩
        · rw [List.length_reverse, List.length_map] at hi
          show (ns.map V.int).length ≤ i
          rw [List.length_map]; exact hi
        · obtain ⟨rfl, hx⟩ := hy
          have hi : i < (ns.map PV.int).length := by
            have := (List.getElem?_eq_some_iff.mp hp).1
            simpa using this
          rw [rev_ix hi] at hp
          have hx := hx _ (sq _ O k)
          rw [List.length_map] at hx hp
          rw [List.getElem?_map] at hp hx
          cases hn : ns[ns.length - 1 - i]? with
          | none => rw [hn] at hp; cases hp
          | some n =>
            rw [hn] at hp hx
            cases hp; cases hx
            exact ⟨Same.refl _, .int n⟩
      | _ => cases hl
    | _ => exact False.elim
/-- lo, lo + 1, .. -/
def rngL (lo : Int) (n : Nat) : List PV := (List.range n).map fun (i : Nat) => PV.int (lo + i)
theorem rngL_len (lo : Int) (n : Nat) : (rngL lo n).length = n := by unfold rngL; rw [List.length_map, List.length_range]
theorem rng_it (lo : Int) (n : Nat) (O1 : Addr → Prop) (H1 : Hp) : ItOk K (Itr lo n) (rngL lo n) O1 H1 := by
  refine ⟨fun i H O k hi => by rw [rngL_len] at hi; exact hi, fun i H O k hi => by rw [rngL_len] at hi; exact hi, fun i H O x H' p k _ hp hy => ?_⟩
  obtain ⟨rfl, rfl⟩ := hy
  unfold rngL at hp
  rw [List.getElem?_map] at hp
  cases hn : (List.range n)[i]? with
  | none => rw [hn] at hp; cases hp
  | some j =>
    rw [hn] at hp
    obtain ⟨h1, h2⟩ := List.getElem?_eq_some_iff.mp hn
    rw [List.getElem_range] at h2
    cases hp
    rw [h2]
    exact ⟨Same.refl _, .int _⟩
def inR (i : Int) : Bool := decide (-(2 ^ 62) ≤ i) && decide (i < 2 ^ 62)
theorem inR_iff {i : Int} : inR i = true ↔ -(2 ^ 62) ≤ i ∧ i < 2 ^ 62 := by unfold inR; rw [Bool.and_eq_true, decide_eq_true_eq, decide_eq_true_eq]
def rng1 : List PV → R (List PV)
  | [.int j] => if inR j = true then .ok (rngL 0 j.toNat) else .stuck
  | _ => .stuck
def rng2 : List PV → R (List PV)
  | [.int i, .int j] => .ok (rngL i (j - i).toNat)
  | _ => .stuck
def iR (g : List PV → R (List PV)) (f : Rho → R (List PV)) : Rho → R (List PV) := fun ρ => (f ρ).bind g
theorem i_rng1 (mg : X.mg "range" = none) (hg : Gl X "range") (ha : AJ X W .t [e] fA) (hs : starEach [e] X.env = [(false, eval e X.env)] := by rfl) : IJ X W tg (.Call (.Name "range" p) [e] [] pos) (iR rng1 fA) := by
  refine pi_imp (pi_range1 hg mg ha hs) fun σ H Q ⟨H0, O0, ρ, S, G⟩ => ⟨H0, O0, ρ, S, ?_⟩
  revert G
  unfold iR
  cases fA ρ with
  | stuck => exact False.elim
  | exc c => exact fun G => G
  | ok ps =>
    intro G vs H1 s1 r1
    rw [R.bind_ok] at G
    unfold rng1 at G
    split at G
    · split at G
      · rename_i hz
        obtain ⟨v, rfl, r2⟩ := pr1 r1
        rw [rt_int r2]
        obtain ⟨z1, z2⟩ := inR_iff.mp hz
        exact ⟨_, rfl, z1, z2, G _ _ s1 (rng_it _ _ _ _)⟩
      · exact G.elim
    · exact G.elim
/-- a range of any numbers, walked by the iterator for great ones -/
theorem turn_long {P : Program} {w : World} {K : PySem.W.Frag} {tg : Expr} (z : Addr) (lo : Int) (n : Nat) : Turn P w K tg (Itr lo n) [z] z (fun j g => IsLongIter g z (lo + (j : Nat) * 1) ((n : Int) - (j : Nat)) 1) := by
  have here : z ∈ [z] := List.mem_singleton.mpr rfl
  refine ⟨here, fun j g hg b hb => ?_, fun j g g' hg k => k z here _ hg, ?_, ?_, fun _ _ _ _ _ hg q => wpAny_pyIter_longiter hg q⟩
  · cases List.mem_singleton.mp hb
    exact ⟨_, hg, fun v e => nomatch e⟩
  · rintro X rfl rfl rfl calm j pins u σ H E inv fresh hg lt
    have fr := fresh z here
    refine (Walks.longrange (prog := X.prog) (w := X.w) (inv.ok.hd calm) z lo 1 n).item j u _ _ lt hg fun v g tk hv hg' same => ?_
    obtain ⟨t, rfl⟩ := hv
    have inv' : Inv X pins σ H { u with heap := g, toks := tk } := inv.turned (fun b o hb e => same b o (fun hm => hb (List.mem_singleton.mp hm)) e) fr.1 fr.2.1 fr.2.2.2.1 fr.2.2.2.2.1 fr.2.2.2.2.2
    exact ⟨_, rfl, go_of (s := { u with heap := g, toks := tk }) (n := "longrange_iterator") hg' rfl rfl (by decide) ⟨.int (lo + j), H, inv', ⟨t, by rw [Int.mul_one]⟩, ⟨rfl, rfl⟩, hg', fun b hb => (fresh b hb).1⟩⟩
  · rintro X rfl rfl rfl calm j pins u σ H E inv fresh hg le
    have fr := fresh z here
    have le : n ≤ j := le
    exact wpAny_pyNext_long_end (inv.ok.hd calm) hg (by omega) fun g eb => ⟨rfl, inv.turned (t' := u.toks) (fun b o hb e => eb b o hb e) fr.1 fr.2.1 fr.2.2.2.1 fr.2.2.2.2.1 fr.2.2.2.2.2⟩
theorem range_any {pins : List (Addr × Obj)} {σ : St} {H : Hp} {u : Shared} {R : It → Hp → Prop} {E : Value → Shared → Prop} {i j : Int} {t1 t2 t3 : Tok} {tk : Nat} (inv : Inv X pins σ H u) (q : R (Itr i (j - i).toNat) H) :
    wpAny (model X.prog X.w) X.A (pyIter (.ref u.heap.objs.size)) (PIE X pins σ tg R) E { u with heap := u.heap.push { cls := .type "range", data := .fields #[.int i t1, .int j t2, .int 1 t3] }, toks := tk } := by
  have inv' : Inv X pins σ H { u with heap := u.heap.push { cls := .type "range", data := .fields #[.int i t1, .int j t2, .int 1 t3] }, toks := tk } := inv.kept fun b o e => Heap.get?_push_of_some _ e
  have many : (((j - i).toNat : Nat) : Int) - ((0 : Nat) : Int) = Builtin.Range.rangeSize i j 1 := by rw [rangeSize_one]; split <;> omega
  have first : i + ((0 : Nat) : Int) * 1 = i := by simp
  cases sm : Builtin.Range.small i j 1 with
  | true =>
    refine wpAny_pyIter_range (IsRange.new ..) sm (pi_one inv' _ (turn_range _ i (j - i).toNat) ?_ q)
    show IsRangeIter _ _ (i + ((0 : Nat) : Int) * 1) ((((j - i).toNat : Nat) : Int) - ((0 : Nat) : Int)) 1
    rw [first, many]; exact Heap.get?_push_size _ rfl
  | false =>
    refine wpAny_pyIter_longrange (IsRange.new ..) sm (pi_one inv' _ (turn_long _ i (j - i).toNat) ?_ q)
    show IsLongIter _ _ (i + ((0 : Nat) : Int) * 1) ((((j - i).toNat : Nat) : Int) - ((0 : Nat) : Int)) 1
    rw [first, many]; exact Heap.get?_push_size _ rfl
def iRngA (ta : TA) : TI := fun σ H R => ta σ H fun vs H' => ∃ i j : Int, vs = [.int i, .int j] ∧ R (Itr i (j - i).toNat) H'
theorem pi_rangeA {a b : Expr} {ta : TA} {p pos : Pos} (hg : Gl X "range") (hm : X.mg "range" = none) (ha : PA X [a, b] ta) (h1 : starEach [a, b] X.env = [(false, eval a X.env), (false, eval b X.env)] := by rfl) (h2 : starEach [b] X.env = [(false, eval b X.env)] := by rfl) :
    PI X tg (.Call (.Name "range" p) [a, b] [] pos) (iRngA ta) := by
  refine ⟨fun pins u σ H R inv hw => Call_ (ld_blt inv hg hm boot_range (PyProof.Rows.callWith_type1 (thn (ha.run pos pins u σ H _ inv hw) ?_) (by rw [h1, h2]) (by rw [h2]; rfl)))⟩
  rintro us u1 ⟨vs, H1, inv1, rel, i, j, rfl, q⟩
  cases rel with
  | cons ri rel => cases rel with
    | cons rj rel =>
      cases rel
      obtain ⟨t1, rfl⟩ := ri
      obtain ⟨t2, rfl⟩ := rj
      exact call_range_2 (range_any inv1 q)
theorem i_rng2 (mg : X.mg "range" = none) (hg : Gl X "range") (ha : AJ X W .t [e, e'] fA) (hs : starEach [e, e'] X.env = [(false, eval e X.env), (false, eval e' X.env)] := by rfl) (hs2 : starEach [e'] X.env = [(false, eval e' X.env)] := by rfl) : IJ X W tg (.Call (.Name "range" p) [e, e'] [] pos) (iR rng2 fA) := by
  refine pi_imp (pi_rangeA hg mg ha hs hs2) fun σ H Q ⟨H0, O0, ρ, S, G⟩ => ⟨H0, O0, ρ, S, ?_⟩
  revert G
  unfold iR
  cases fA ρ with
  | stuck => exact False.elim
  | exc c => exact fun G => G
  | ok ps =>
    intro G vs H1 s1 r1
    rw [R.bind_ok] at G
    unfold rng2 at G
    split at G
    · obtain ⟨v, w, rfl, r2, r3⟩ := pr2 r1
      rw [rt_int r2, rt_int r3]
      exact ⟨_, _, rfl, G _ _ s1 (rng_it _ _ _ _)⟩
    · exact G.elim
end
def GotG (K : PySem.W.Frag) (H0 : Hp) (O0 : Addr → Prop) (H : Hp) (ts : List Nat) (σ : St) (ρ : Rho) (Q : St → Hp → Prop) : Option Rho → Prop
  | some ρ' => ∀ σ', StR K H0 O0 H σ' ρ' → (∀ a, OO O0 σ' ρ' a → OO O0 σ ρ a) → σ'.length = σ.length → (∀ (i : Nat), i ∉ ts → σ'[i]? = σ[i]? ∧ ρ'[i]? = ρ[i]?) → Q σ' H
  | none => False
def tG (K : PySem.W.Frag) (ts : List Nat) (h : PV → Rho → Option Rho) : TG := fun v σ H Q => ∃ H0 O0 ρ p, StR K H0 O0 H σ ρ ∧ Rep K H (OO O0 σ ρ) v p ∧ GotG K H0 O0 H ts σ ρ Q (h p ρ)
abbrev GJ (X : Cx) (tg : Expr) (ts : List Nat) (h : PV → Rho → Option Rho) : Prop := PG X tg (tG X.K ts h)
theorem pg_imp {X : Cx} {tg : Expr} {t t' : TG} (h : PG X tg t) (q : ∀ v σ H Q, t' v σ H Q → t v σ H Q) : PG X tg t' := ⟨fun pins s σ H v u Q I r hw => h.run pins s σ H v u Q I r (q v σ H Q hw)⟩
theorem pgs_imp {X : Cx} {tg : List Expr} {t t' : TGs} (h : PGs X tg t) (q : ∀ v σ H Q, t' v σ H Q → t v σ H Q) : PGs X tg t' := ⟨fun pins s σ H v u Q I r hw => h.run pins s σ H v u Q I r (q v σ H Q hw)⟩
def gN (i : Nat) : PV → Rho → Option Rho := fun p ρ => some (ρ.set i (.val p))
theorem g_name {X : Cx} {tg : Expr} {i : Nat} (h : PG X tg (gName i)) : GJ X tg [i] (gN i) := by
  refine pg_imp h fun v σ H Q ⟨H0, O0, ρ, p, S, r, G⟩ => ?_
  exact G _ (S.set (s := .val p) (fun _ z => nomatch z) (fun q z => by cases z; exact ⟨v, rfl, r⟩)) (fun a z => OO.set_val (s := .val p) (fun _ z => nomatch z) z) (List.length_set ..) fun j hj => have n : i ≠ j := fun e => hj (by rw [e]; exact List.mem_cons_self); ⟨List.getElem?_set_ne n, List.getElem?_set_ne n⟩
/-- several targets -/
def tGs (K : PySem.W.Frag) (ts : List Nat) (h : List PV → Rho → Option Rho) : TGs := fun vs σ H Q => ∃ H0 O0 ρ ps, StR K H0 O0 H σ ρ ∧ Reps K H (OO O0 σ ρ) vs ps ∧ GotG K H0 O0 H ts σ ρ Q (h ps ρ)
abbrev GJs (X : Cx) (tg : List Expr) (ts : List Nat) (h : List PV → Rho → Option Rho) : Prop := PGs X tg (tGs X.K ts h)
def gsNil : List PV → Rho → Option Rho
  | [], ρ => some ρ
  | _, _ => none
def gsCons (g : PV → Rho → Option Rho) (h : List PV → Rho → Option Rho) : List PV → Rho → Option Rho
  | p :: ps, ρ => (g p ρ).bind (h ps)
  | [], _ => none
section
variable {X : Cx} {e : Expr} {es : List Expr} {g : PV → Rho → Option Rho} {h : List PV → Rho → Option Rho} {pos : Pos} {ts us : List Nat}
theorem gs_nil : GJs X [] [] gsNil := by
  refine pgs_imp pgs_nil fun vs σ H Q ⟨H0, O0, ρ, ps, S, r, G⟩ => ?_
  cases ps with
  | nil => cases r; exact ⟨rfl, G σ S (fun _ z => z) rfl fun _ _ => ⟨rfl, rfl⟩⟩
  | cons p ps => exact G.elim
theorem gs_cons (h1 : GJ X e ts g) (h2 : GJs X es us h) (hs : (assignEach (e :: es) X.env).map (·.2) = assign e X.env :: (assignEach es X.env).map (·.2) := by rfl) : GJs X (e :: es) (ts ++ us) (gsCons g h) := by
  refine pgs_imp (pgs_cons h1 h2 hs) fun vs σ H Q ⟨H0, O0, ρ, ps, S, r, G⟩ => ?_
  cases r with
  | nil => exact G.elim
  | @cons v vs p ps r1 r2 =>
    refine ⟨v, vs, rfl, H0, O0, ρ, p, S, r1, ?_⟩
    have G' : GotG X.K H0 O0 H (ts ++ us) σ ρ Q ((g p ρ).bind (h ps)) := G
    revert G'
    cases g p ρ with
    | none => exact False.elim
    | some ρ1 =>
      intro G' σ1 S1 l1 e1 k1
      exact ⟨H0, O0, ρ1, ps, S1, r2.less l1, by
        revert G'
        rw [Option.bind_some]
        cases h ps ρ1 with
        | none => exact fun G => G
        | some ρ2 => exact fun G' σ2 S2 l2 e2 k2 => G' σ2 S2 (fun a z => l1 a (l2 a z)) (e2.trans e1) fun i hi => have a := k2 i fun z => hi (List.mem_append_right _ z); have b := k1 i fun z => hi (List.mem_append_left _ z); ⟨a.1.trans b.1, a.2.trans b.2⟩⟩
theorem draw_l {prog : Program} {w : World} {A : Around} {E : Value → Shared → Prop} {it l : Addr} {xs : Array Value} (ne : l ≠ it) : ∀ (k j : Nat) (u : Shared) (R : List Value → Shared → Prop), u.heap.IsListIter it l j → u.heap.IsList l xs → j + k ≤ xs.size →
    (∀ g, g.IsListIter it l (j + k) → Heap.SameBut it u.heap g → R ((xs.toList.drop j).take k) { u with heap := g }) → wpAny (model prog w) A (draw (.ref it) k) R E u
  | 0, j, u, R, _, _, _, q => wpAny_pure (by simpa using q u.heap (by simpa) (Heap.SameBut.refl ..))
  | k + 1, j, u, R, hi, hl, hs, q => by
    have lt : j < xs.size := by omega
    show wpAny (model prog w) A (pyNext (.ref it) >>= _) R E u
    refine wpAny_bind (wpAny_pyNext_list_item hi hl (x := xs[j]) (by simp [lt]) fun g1 i1 b1 => ?_)
    refine wpAny_bind (wpAny_holding (draw_l ne k (j + 1) _ _ i1 (hl.extBut b1.extBut ne) (by omega) fun g2 i2 b2 => wpAny_pure ?_))
    have z := q g2 (by rw [show j + (k + 1) = j + 1 + k by omega]; exact i2) (b1.trans b2)
    rw [show xs.toList.drop j = xs[j] :: xs.toList.drop (j + 1) by simp [List.drop_eq_getElem_cons, lt], List.take_succ_cons] at z
    exact z
theorem unp_l {prog : Program} {w : World} {A : Around} {E : Value → Shared → Prop} {u : Shared} {l : Addr} {xs : Array Value} {R : List Value → Shared → Prop} (hh : A.handled = none) (hl : u.heap.IsList l xs)
    (q : ∀ g, Heap.ExtBut u.heap.objs.size u.heap g → R xs.toList { u with heap := g }) : wpAny (model prog w) A (unpackItems (.ref l) xs.size none) R E u := by
  have ne : l ≠ u.heap.objs.size := by obtain ⟨o, ho, _⟩ := hl; exact Nat.ne_of_lt (Heap.lt_size ho)
  unfold unpackItems
  refine wpAny_bind ?_
  unfold notIterableAtAll
  refine wpAny_bind (wpAny_specialOf hl.typeIs slot_list_iter.lookup (wpAny_pure ?_))
  simp only [Bool.false_eq_true, if_false]
  refine wpAny_bind (wpAny_holding (wpAny_pyIter_list hl ?_))
  have h1 := hl.push { cls := .type "list_iterator", data := .fields #[.ref l, .int 0 0] }
  refine wpAny_bind (wpAny_holding (draw_l ne xs.size 0 _ _ ⟨_, Heap.get?_push_size _ rfl, rfl, rfl⟩ h1 (by omega) fun g1 i1 b1 => ?_))
  rw [show List.take xs.size (List.drop 0 xs.toList) = xs.toList by rw [List.drop_zero]; exact List.take_of_length_le (by simp)]
  rw [if_neg (by simp)]
  refine wpAny_bind (wpAny_holding (wpAny_pyNext_list_end hh i1 (h1.extBut b1.extBut ne) (by simp) fun g2 e2 => ?_))
  simp only [Option.isSome_none, Bool.false_eq_true, if_false]
  exact wpAny_pure (q g2 fun b o hb e => e2 b o hb (b1.extBut b o hb (Heap.get?_push_of_some _ e)))
def gSq (K : PySem.W.Frag) (n : Nat) (t : TGs) : TG := fun v σ H Q => ∃ a xs, v = .ref a ∧ (SqT K H a xs ∨ SqL K H a xs) ∧ xs.length = n ∧ t xs σ H Q
theorem pg_sq {X : Cx} {es : List Expr} {k n : Nat} {pos : Pos} {t : TGs} (hc : X.calm = true) (h : PGs X es t) (hn : (assignEach es X.env).length = n := by rfl) (hst : (assignEach es X.env).findIdx? (·.1) = none := by rfl) : PG X (.Tuple es k pos) (gSq X.K n t) := by
  refine ⟨fun pins s σ H v u Q I r g => ?_⟩
  obtain ⟨a, xs, e, hq | hq, hl, hw⟩ := g
  · exact (pg_tup hc h hn hst).run pins s σ H v u Q I r ⟨a, xs, e, hq, hl, hw⟩
  · subst e
    cases r
    obtain ⟨its, rv, pl, hz⟩ := I.list hq
    rw [assign_Tuple]
    refine wpAny_bind (wpAny_standAt ?_)
    unfold unpack
    have hsz : (assignEach es X.env).length = its.toArray.size := by simp [hn, ← hl, rv.length]
    rw [hsz, hst]
    refine wpAny_bind (wpAny_holding (unp_l (I.ok.hd hc) pl.isList fun g eb => ?_))
    have J : Inv X pins σ H { s with heap := g } := I.kept (t' := s.toks) fun b o e => eb b o (Nat.ne_of_lt (Heap.lt_size e)) e
    exact h.run pins _ σ H xs _ Q J (by simpa using rv) hw
def gT (h : List PV → Rho → Option Rho) : PV → Rho → Option Rho
  | .tup ps, ρ => h ps ρ
  | .lst ps, ρ => h ps ρ
  | _, _ => none
theorem g_tup {k n : Nat} (hc : X.calm = true) (h1 : GJs X es ts h) (hl : ∀ ps ρ ρ', h ps ρ = some ρ' → ps.length = n) (hn : (assignEach es X.env).length = n := by rfl) (hst : (assignEach es X.env).findIdx? (·.1) = none := by rfl) : GJ X (.Tuple es k pos) ts (gT h) := by
  refine pg_imp (pg_sq hc h1 hn hst) fun v σ H Q ⟨H0, O0, ρ, p, S, r, G⟩ => ?_
  have len : ∀ (ps : List PV), GotG X.K H0 O0 H ts σ ρ Q (h ps ρ) → ps.length = n := fun ps G' => by
    revert G'
    cases hh : h ps ρ with
    | none => exact False.elim
    | some ρ' => exact fun _ => hl ps ρ ρ' hh
  cases p with
  | tup ps =>
    cases r with
    | @tup a vs _ ha r => exact ⟨a, vs, rfl, .inl (sqT_of ha), by rw [r.length]; exact len ps G, H0, O0, ρ, ps, S, r, G⟩
  | lst ps =>
    cases r with
    | @lst a vs _ ha hn r => exact ⟨a, vs, rfl, .inr (.inl (.inl ha)), by rw [r.length]; exact len ps G, H0, O0, ρ, ps, S, r, G⟩
  | _ => exact G.elim
theorem gs_len : ∀ {n : Nat} {g : PV → Rho → Option Rho} {h : List PV → Rho → Option Rho}, (∀ ps ρ ρ', h ps ρ = some ρ' → ps.length = n) → ∀ ps ρ ρ', gsCons g h ps ρ = some ρ' → ps.length = n + 1 := by
  intro n g h hl ps ρ ρ' e
  cases ps with
  | nil => cases e
  | cons p ps =>
    have e' : (g p ρ).bind (h ps) = some ρ' := e
    cases hg : g p ρ with
    | none => rw [hg] at e'; cases e'
    | some ρ1 =>
      rw [hg, Option.bind_some] at e'
      rw [List.length_cons, hl ps ρ1 ρ' e']
theorem gs_len0 : ∀ ps ρ ρ', gsNil ps ρ = some ρ' → ps.length = 0 := by
  intro ps ρ ρ' e
  cases ps with
  | nil => rfl
  | cons p ps => cases e
end
end PL
set_option Elab.async false
set_option linter.all false
set_option maxRecDepth 100000
set_option autoImplicit false
namespace PL
open PySem PySem.Spec L2
open PyProof.Rows hiding St
def wipeR (ρ : Rho) : List Nat → Rho
  | [] => ρ
  | v :: vs => (wipeR ρ vs).set v .un
def notOwn (ρ : Rho) (v : Nat) : Bool := match ρ[v]? with
  | some (.own _) => false
  | _ => true
theorem wipe_get (σ : St) : ∀ (vs : List Nat) (i : Nat), (wipe σ vs)[i]? = if i ∈ vs then (if i < σ.length then some none else none) else σ[i]?
  | [], i => by simp [wipe]
  | v :: vs, i => by
    unfold wipe
    by_cases e : v = i
    · subst e
      rw [if_pos List.mem_cons_self]
      by_cases h : v < σ.length
      · rw [if_pos h, List.getElem?_set_self (by rw [wipe_length]; exact h)]
      · rw [if_neg h, List.getElem?_eq_none (by rw [List.length_set, wipe_length]; omega)]
    · rw [List.getElem?_set_ne e, wipe_get σ vs i]
      have : i ∈ v :: vs ↔ i ∈ vs := by
        rw [List.mem_cons]
        exact ⟨fun z => z.elim (fun z => absurd z.symm e) id, .inr⟩
      simp only [this]
theorem wipe_back {σ σ2 : St} {vs : List Nat} (hl : σ2.length = (wipe σ vs).length) (h : ∀ (i : Nat), i ∉ vs → σ2[i]? = (wipe σ vs)[i]?) : wipe σ2 vs = wipe σ vs := by
  refine List.ext_getElem? fun i => ?_
  rw [wipe_get σ2 vs i]
  by_cases hi : i ∈ vs
  · rw [if_pos hi, hl, wipe_length, wipe_get σ vs i, if_pos hi]
  · rw [if_neg hi, h i hi]
theorem wipe_st {K : PySem.W.Frag} {H0 H : Hp} {O0 : Addr → Prop} {σ : St} {ρ : Rho} (S : StR K H0 O0 H σ ρ) : ∀ vs : List Nat, StR K H0 O0 H (wipe σ vs) (wipeR ρ vs) ∧ ∀ a, OO O0 (wipe σ vs) (wipeR ρ vs) a → OO O0 σ ρ a
  | [] => ⟨S, fun _ z => z⟩
  | v :: vs => by
    obtain ⟨S1, l1⟩ := wipe_st S vs
    exact ⟨S1.set (s := .un) (fun _ z => nomatch z) (fun _ z => nomatch z), fun a z => l1 a (OO.set_val (s := .un) (fun _ z => nomatch z) z)⟩
theorem wipeR_get (ρ : Rho) : ∀ (vs : List Nat) (i : Nat), i ∉ vs → (wipeR ρ vs)[i]? = ρ[i]?
  | [], i, _ => rfl
  | v :: vs, i, h => by
    rw [List.mem_cons, not_or] at h
    unfold wipeR
    rw [List.getElem?_set_ne (Ne.symm h.1), wipeR_get ρ vs i h.2]
theorem wipe_oo {O0 : Addr → Prop} {σ : St} {ρ : Rho} {vs : List Nat} (hn : vs.all (notOwn ρ) = true) {a : Addr} (h : OO O0 σ ρ a) : OO O0 (wipe σ vs) (wipeR ρ vs) a := by
  rcases h with h | ⟨i, ps, h1, h2⟩
  · exact .inl h
  · have hi : i ∉ vs := fun hi => by
      have := List.all_eq_true.mp hn i hi
      unfold notOwn at this
      rw [h1] at this
      cases this
    exact .inr ⟨i, ps, by rw [wipeR_get ρ vs i hi]; exact h1, by rw [wipe_get, if_neg hi]; exact h2⟩
/-- what the turns make of the items -/
def lcGo (tgt : PV → Rho → Option Rho) (test : Rho → R Bool) (elt : Rho → R PV) (ρ : Rho) : List PV → R (List PV)
  | [] => .ok []
  | p :: ps => match tgt p ρ with
    | none => .stuck
    | some ρ1 => match test ρ1 with
      | .ok true => (match elt ρ1 with
        | .ok q => (match lcGo tgt test elt ρ ps with
          | .ok qs => .ok (q :: qs)
          | _ => .stuck)
        | _ => .stuck)
      | .ok false => lcGo tgt test elt ρ ps
      | _ => .stuck
def eLc (vs : List Nat) (it : Rho → R (List PV)) (tgt : PV → Rho → Option Rho) (test : Rho → R Bool) (elt : Rho → R PV) : Rho → R PV := fun ρ =>
  if vs.all (notOwn ρ) = true then (it ρ).bind fun items => if items.length ≤ sizeLine then (match lcGo tgt test elt (wipeR ρ vs) items with
    | .ok qs => .ok (.lst qs)
    | _ => .stuck) else .stuck
  else .stuck
abbrev CJ (X : Cx) (W : WX) (ifs : List Expr) (f : Rho → R Bool) : Prop := PTs X ifs (tT X.K X.mg W f)
def cYes : Rho → R Bool := fun _ => .ok true
abbrev WF : WX := fun _ _ _ _ => False
section
variable {X : Cx} {W : WX} {e tg it : Expr} {pos : Pos} {f g h : Rho → R PV}
theorem c_nil : CJ X W [] cYes := by
  refine ⟨fun pins s σ H Q I ⟨H0, O0, ρ, S, G⟩ => pts_nil.run pins s σ H Q I (G H (Same.refl H))⟩
theorem c_one {c : Expr} {t : Rho → R Bool} (h : TJ X W c t) : CJ X W [c] t := pts_one h
theorem bump {K : PySem.W.Frag} {H0 H : Hp} {O0 : Addr → Prop} {σ : St} {ρ : Rho} {D : Addr} {o : HO} (S : StR K H0 O0 H σ ρ) (hD : O0 D) (h0 : H0 D = none) {us : List V} (hl : H D = some (.lst us)) : StR K H0 O0 (upd H D o) σ ρ := by
  have k : ∀ a u, H a = some u → ¬ OO O0 σ ρ a → upd H D o a = some u ∧ ¬ OO O0 σ ρ a := fun a u h n => ⟨by rw [upd_ne (fun z => n (by rw [z]; exact .inl hD))]; exact h, n⟩
  refine ⟨S.len, fun b x h => by rw [upd_ne (fun z => by rw [z, h0] at h; cases h)]; exact S.same b x h, fun a h => ?_, fun i ps h => ?_, S.dis, fun i p h => ?_, S.exs, dds_later S.dds fun a l e => by rw [upd_ne (fun z => by rw [z, hl] at e; cases e)]; exact e⟩
  · by_cases e : a = D
    · rw [e, upd_same]; exact fun z => nomatch z
    · rw [upd_ne e]; exact S.all0 a h
  · obtain ⟨a, vs, e1, e2, e3, e4, e5⟩ := S.own i ps h
    exact ⟨a, vs, e1, by rw [upd_ne (fun z => e4 (by rw [z]; exact hD))]; exact e2, e3, e4, e5.mono k⟩
  · obtain ⟨v, e1, e2⟩ := S.val i p h
    exact ⟨v, e1, e2.mono k⟩
/-- another address is forbidden: one that is new -/
theorem forbid {K : PySem.W.Frag} {H0 H : Hp} {O0 : Addr → Prop} {σ : St} {ρ : Rho} {D : Addr} {o : HO} (S : StR K H0 O0 H σ ρ) (hD : H D = none) : StR K H0 (fun b => O0 b ∨ b = D) (upd H D o) σ ρ := by
  have oo : ∀ a, OO (fun b => O0 b ∨ b = D) σ ρ a → OO O0 σ ρ a ∨ a = D := fun a z => by
    rcases z with (z | z) | z
    · exact .inl (.inl z)
    · exact .inr z
    · exact .inl (.inr z)
  have k : ∀ a u, H a = some u → ¬ OO O0 σ ρ a → upd H D o a = some u ∧ ¬ OO (fun b => O0 b ∨ b = D) σ ρ a := fun a u h n => ⟨same_new hD a u h, fun z => (oo a z).elim n (ne_of_none h hD)⟩
  refine ⟨S.len, fun b x h => same_new hD b x (S.same b x h), fun a h => ?_, fun i ps h => ?_, S.dis, fun i p h => ?_, S.exs, fun i a l e => by
    obtain ⟨e1, e2, e3, e4⟩ := S.dds i a l e
    exact ⟨e1, same_new hD _ _ e2, .inl e3, e4⟩⟩
  · rcases h with h | h
    · cases q : H a with
      | none => exact absurd q (S.all0 a h)
      | some u => rw [same_new hD a u q]; exact fun z => nomatch z
    · rw [h, upd_same]; exact fun z => nomatch z
  · obtain ⟨a, vs, e1, e2, e3, e4, e5⟩ := S.own i ps h
    exact ⟨a, vs, e1, same_new hD _ _ e2, e3, fun z => z.elim e4 (ne_of_none e2 hD), e5.mono k⟩
  · obtain ⟨v, e1, e2⟩ := S.val i p h
    exact ⟨v, e1, e2.mono k⟩
theorem lc_run {wi : Rho → R (List PV)} {tgt : PV → Rho → Option Rho} {test : Rho → R Bool} {elt : Rho → R PV} {vs ts : List Nat} (hts : ∀ i ∈ ts, i ∈ vs) {K : PySem.W.Frag} {mg : Str → Option Value} :
    ∀ σ H Q, tE K mg W .f (eLc vs wi tgt test elt) σ H Q → tLc (tI K mg W wi) (tG K ts tgt) (tT K mg WF test) (tE K mg WF .s elt) vs σ H Q := by
  intro σ H Q ⟨H0, O0, ρ, S, G⟩
  refine ⟨H0, O0, ρ, S, ?_⟩
  revert G
  unfold eLc
  split
  · rename_i hn
    cases wi ρ with
    | stuck => exact False.elim
    | exc c => exact fun G => G
    | ok items =>
      rw [R.bind_ok]
      split
      · rename_i hz
        intro G J H1 s1 ok D hD
        cases hq : lcGo tgt test elt (wipeR ρ vs) items with
        | stuck => rw [hq] at G; exact G.elim
        | exc c => rw [hq] at G; exact absurd G (fun G => by exact (show False from G))
        | ok qs =>
          rw [hq] at G
          have S1 := S.step s1
          obtain ⟨S2, l2⟩ := wipe_st S1 vs
          have hH0 : H0 D = none := S1.same.free hD
          have S3 : StR K H0 (fun b => O0 b ∨ b = D) (upd H1 D (.lst [])) (wipe σ vs) (wipeR ρ vs) := forbid S2 hD
          have OD : OO (fun b => O0 b ∨ b = D) (wipe σ vs) (wipeR ρ vs) D := .inl (.inr rfl)
          have oo : ∀ a, OO (fun b => O0 b ∨ b = D) (wipe σ vs) (wipeR ρ vs) a → OO O0 σ ρ a ∨ a = D := fun a z => by
            rcases z with (z | z) | z
            · exact .inl (.inl z)
            · exact .inr z
            · exact .inl (l2 a (.inr z))
          refine ⟨fun i m Hc => m = items.length - i ∧ i ≤ items.length ∧ Same H1 Hc ∧ StR K H0 (fun b => O0 b ∨ b = D) Hc (wipe σ vs) (wipeR ρ vs) ∧
              ∃ ws ps rs, Hc D = some (.lst ws) ∧ Reps K Hc (OO (fun b => O0 b ∨ b = D) (wipe σ vs) (wipeR ρ vs)) ws ps ∧ ps.length ≤ i ∧ lcGo tgt test elt (wipeR ρ vs) (items.drop i) = .ok rs ∧ qs = ps ++ rs,
            ⟨items.length, by simp, Nat.zero_le _, same_new hD, S3, [], [], qs, upd_same, .nil, Nat.zero_le _, by rw [List.drop_zero]; exact hq, rfl⟩, ?_⟩
          rintro i m Hc ⟨rfl, hi, sc, Sc, ws, ps, rs, hDc, rc, hpl, hgo, hqs⟩
          have kept : Kept (OO O0 σ ρ) H1 (OO (fun b => O0 b ∨ b = D) (wipe σ vs) (wipeR ρ vs)) Hc := fun a o h n => ⟨sc a o h, fun z => (oo a z).elim n (ne_of_none h hD)⟩
          have alloc : ∀ a, OO (fun b => O0 b ∨ b = D) (wipe σ vs) (wipeR ρ vs) a → Hc a ≠ none := fun a z => Sc.there z
          by_cases hlt : i < items.length
          · refine .inr ⟨ok.go i Hc _ kept hlt, _, fun H' n => ⟨items.length - (i + 1), by omega, rfl, hlt, n⟩, fun x Hy hy => ?_⟩
            have hg : items[i]? = some items[i] := List.getElem?_eq_getElem hlt
            obtain ⟨sy, ry⟩ := ok.yld i Hc _ x Hy _ kept alloc hg hy
            have hdr : items.drop i = items[i] :: items.drop (i + 1) := List.drop_eq_getElem_cons hlt
            rw [hdr] at hgo
            refine ⟨H0, _, wipeR ρ vs, items[i], Sc.step sy, ry, ?_⟩
            unfold lcGo at hgo
            cases ht : tgt items[i] (wipeR ρ vs) with
            | none => rw [ht] at hgo; cases hgo
            | some ρ1 =>
              rw [ht] at hgo
              intro σ2 Sg lg eg kg
              refine ⟨wipe_back eg fun j hj => (kg j fun z => hj (hts j z)).1, H0, _, ρ1, Sg, ?_⟩
              have hgo : (match test ρ1 with
                | .ok true => (match elt ρ1 with
                  | .ok q => (match lcGo tgt test elt (wipeR ρ vs) (items.drop (i + 1)) with
                    | .ok qs => .ok (q :: qs)
                    | _ => .stuck)
                  | _ => .stuck)
                | .ok false => lcGo tgt test elt (wipeR ρ vs) (items.drop (i + 1))
                | _ => .stuck) = (.ok rs : R (List PV)) := hgo
              cases hte : test ρ1 with
              | stuck => rw [hte] at hgo; cases hgo
              | exc c => rw [hte] at hgo; cases hgo
              | ok b =>
                rw [hte] at hgo
                intro H3 s3
                cases b with
                | false =>
                  rw [if_neg Bool.false_ne_true]
                  have s13 := (sc.trans sy).trans s3
                  exact ⟨s13, Sc.step (sy.trans s3), ws, ps, rs, (sy.trans s3) _ _ hDc, rc.same (sy.trans s3), by omega, hgo, hqs⟩
                | true =>
                  rw [if_pos rfl]
                  refine ⟨H0, _, ρ1, Sg.step s3, ?_⟩
                  have hgo : (match elt ρ1 with
                    | .ok q => (match lcGo tgt test elt (wipeR ρ vs) (items.drop (i + 1)) with
                      | .ok qs => .ok (q :: qs)
                      | _ => .stuck)
                    | _ => .stuck) = (.ok rs : R (List PV)) := hgo
                  cases hel : elt ρ1 with
                  | stuck => rw [hel] at hgo; cases hgo
                  | exc c => rw [hel] at hgo; cases hgo
                  | ok q =>
                    rw [hel] at hgo
                    have hgo : (match lcGo tgt test elt (wipeR ρ vs) (items.drop (i + 1)) with
                      | .ok qs => .ok (q :: qs)
                      | _ => .stuck) = (.ok rs : R (List PV)) := hgo
                    cases hre : lcGo tgt test elt (wipeR ρ vs) (items.drop (i + 1)) with
                    | stuck => rw [hre] at hgo; cases hgo
                    | exc c => rw [hre] at hgo; cases hgo
                    | ok rs' =>
                      rw [hre] at hgo
                      cases hgo
                      intro y H4 s4 r4
                      have s34 := (sy.trans s3).trans s4
                      have r4 : Rep K H4 (OO (fun b => O0 b ∨ b = D) σ2 ρ1) y q := r4
                      refine ⟨ws, s34 _ _ hDc, by rw [rc.length]; omega, ?_⟩
                      have nD : ∀ {b : Addr} {o : HO} {O : Addr → Prop}, O D → H4 b = some o → ¬ O b → upd H4 D (.lst (ws ++ [y])) b = some o ∧ ¬ O b := fun {b o O} hO h n => ⟨by rw [upd_ne (fun z => n (by rw [z]; exact hO))]; exact h, n⟩
                      refine ⟨fun b o h => ?_, bump (Sc.step s34) (.inr rfl) hH0 (s34 _ _ hDc), ws ++ [y], ps ++ [q], rs', upd_same, ?_, by rw [List.length_append]; simp; omega, rfl, by rw [hqs, List.append_assoc]; rfl⟩
                      · rw [upd_ne (ne_of_none h hD)]; exact s34 _ _ (sc _ _ h)
                      · refine Reps.append ((rc.same s34).mono fun b o h n => nD OD h n) (.cons ?_ .nil)
                        refine r4.mono fun b o h n => ?_
                        have hb : b ≠ D := fun z => n (by rw [z]; exact .inl (.inr rfl))
                        refine ⟨by rw [upd_ne hb]; exact h, fun z => ?_⟩
                        rcases z with z | ⟨j, us, z1, z2⟩
                        · exact n (.inl z)
                        · have hj : j ∉ vs := fun hj => by
                            have z3 : (wipeR ρ vs)[j]? = some (.own us) := z1
                            have z4 : (wipe σ vs)[j]? = some (some (.ref b)) := z2
                            rw [wipe_get, if_pos hj] at z4
                            split at z4 <;> cases z4
                          have kj := kg j fun z => hj (hts j z)
                          exact n (.inr ⟨j, us, by rw [kj.2]; exact z1, by rw [kj.1]; exact z2⟩)
          · have e : i = items.length := by omega
            subst e
            rw [List.drop_length] at hgo
            cases hgo
            rw [List.append_nil] at hqs
            subst hqs
            refine .inl ⟨ok.stop _ Hc _ kept (Nat.le_refl _), G _ _ (s1.trans sc) ⟨D, ws, _, rfl, rfl, s1.free hD, hDc, rc.less fun a z => ?_⟩⟩
            rcases z with z | z
            · rcases wipe_oo hn z with z | z
              · exact .inl (.inl z)
              · exact .inr z
            · rw [z]; exact OD
      · exact False.elim
  · exact False.elim
variable {ifs : List Expr} {scope : Scope} {own : List (Str × Nat)} {wi : Rho → R (List PV)} {tgt : PV → Rho → Option Rho} {test : Rho → R Bool} {elt : Rho → R PV} {ts : List Nat}
theorem e_lc (hc : X.calm = true) (hN : X.N.Nodup) (hi : IJ X W tg it wi) (ok : BlkOk X.N X.env.scope scope own) (hts : ∀ i ∈ ts, i ∈ own.map (·.2))
    (hg : ∀ (s : Shared) (H : Hp) (C : Addr) (cl : List (Str × Addr)) (fp : List Addr), GJ (X.blk s H scope (compEnvC scope cl C X.env) fp) tg ts tgt)
    (ht : ∀ (s : Shared) (H : Hp) (C : Addr) (cl : List (Str × Addr)) (fp : List Addr), CJ (X.blk s H scope (compEnvC scope cl C X.env) fp) WF ifs test)
    (he : ∀ (s : Shared) (H : Hp) (C : Addr) (cl : List (Str × Addr)) (fp : List Addr), EJ (X.blk s H scope (compEnvC scope cl C X.env) fp) WF .s e elt)
    (hs : ∀ x, foldedSetIterable it X.env x = pure x := by intro _; rfl) : EJ X W .f (.ListComp e [⟨tg, it, ifs, 0⟩] scope pos) (eLc (own.map (·.2)) wi tgt test elt) :=
  pe_imp (pe_lc hc hN hi ok hg ht he hs) (lc_run hts)
end
inductive Out where
  | next (ρ : Rho) | ret (p : PV) | brk (ρ : Rho) | cont (ρ : Rho) | exc (c : Str) (ρ : Rho) | stuck
def GotS (K : PySem.W.Frag) (mg : Str → Option Value) (W : WX) (nw : Bool) (H0 : Hp) (O0 : Addr → Prop) (σ : St) (ρ : Rho) (H : Hp) (D : Ends) : Out → Prop
  | .next ρ' => ∀ σ' H', StR K H0 O0 H' σ' ρ' → Kept (OO O0 σ ρ) H (OO O0 σ' ρ') H' → D.nx σ' H'
  | .brk ρ' => ∀ σ' H', StR K H0 O0 H' σ' ρ' → Kept (OO O0 σ ρ) H (OO O0 σ' ρ') H' → D.bk σ' H'
  | .cont ρ' => ∀ σ' H', StR K H0 O0 H' σ' ρ' → Kept (OO O0 σ ρ) H (OO O0 σ' ρ') H' → D.ct σ' H'
  | .ret p => ∀ v H', Same H0 H' → RepR K O0 nw H0 H' v p → D.rt v H'
  | .exc c ρ' => ∀ C σ' H', mg c = some (.ref C) → StR K H0 O0 H' σ' ρ' → Kept (OO O0 σ ρ) H (OO O0 σ' ρ') H' → W (.ref C) none σ' H'
  | .stuck => False
def tS (K : PySem.W.Frag) (mg : Str → Option Value) (W : WX) (nw : Bool) (g : Rho → Out) : TS := fun D σ H =>
  ∃ H0 O0 ρ, StR K H0 O0 H σ ρ ∧ GotS K mg W nw H0 O0 σ ρ H D (g ρ)
abbrev SJ (X : Cx) (W : WX) (nw : Bool) (st : Stmt) (g : Rho → Out) : Prop := PS X st (tS X.K X.mg W nw g)
abbrev BJ (X : Cx) (W : WX) (nw : Bool) (st : List Stmt) (g : Rho → Out) : Prop := PSs X st (tS X.K X.mg W nw g)
def Out.then (o : Out) (k : Rho → Out) : Out := match o with
  | .next ρ => k ρ
  | o => o
section
variable {K : PySem.W.Frag} {mg : Str → Option Value} {W : WX} {nw : Bool} {H0 H H1 : Hp} {O0 : Addr → Prop} {σ σ1 : St} {ρ ρ1 : Rho} {D : Ends}
theorem GotS.later {o : Out} (k : Kept (OO O0 σ ρ) H (OO O0 σ1 ρ1) H1) (G : GotS K mg W nw H0 O0 σ ρ H D o) : GotS K mg W nw H0 O0 σ1 ρ1 H1 D o := by
  cases o with
  | next ρ' => exact fun σ' H' S k' => G σ' H' S (k.trans k')
  | brk ρ' => exact fun σ' H' S k' => G σ' H' S (k.trans k')
  | cont ρ' => exact fun σ' H' S k' => G σ' H' S (k.trans k')
  | ret p => exact G
  | exc c ρ' => exact fun C σ' H' e S k' => G C σ' H' e S (k.trans k')
  | stuck => exact G
/-- an expression's exception, from the statement's -/
theorem exc_of {c : Str} (S : StR K H0 O0 H σ ρ) (G : GotS K mg W nw H0 O0 σ ρ H D (.exc c ρ)) : ∀ C H', Same H H' → mg c = some (.ref C) → W (.ref C) none σ H' :=
  fun C H' s e => G C σ H' e (S.step s) (Kept.same s)
theorem kept_set {i : Nat} {v : Option V} {s : Slot} (hs : ∀ ps, s ≠ .own ps) (sm : Same H H1) : Kept (OO O0 σ ρ) H (OO O0 (σ.set i v) (ρ.set i s)) H1 := fun a o h n => ⟨sm a o h, fun z => n (OO.set_val hs z)⟩
theorem kept_own {i : Nat} {a : Addr} {ps : List PV} (hn : H a = none) (sm : Same H H1) : Kept (OO O0 σ ρ) H (OO O0 (σ.set i (some (.ref a))) (ρ.set i (.own ps))) H1 := fun b o h n => ⟨sm b o h, fun z => by
  rcases z with z | ⟨j, qs, h1, h2⟩
  · exact n (.inl z)
  · by_cases e : i = j
    · subst e
      by_cases hl : i < σ.length
      · rw [List.getElem?_set_self hl] at h2; cases h2
        exact ne_of_none h hn rfl
      · rw [List.getElem?_eq_none (by rw [List.length_set]; omega)] at h2; cases h2
    · rw [List.getElem?_set_ne e] at h1 h2
      exact n (.inr ⟨j, qs, h1, h2⟩)⟩
end
section
variable {X : Cx} {W : WX} {nw : Bool} {st : Stmt} {rest : List Stmt} {e : Expr} {pos : Pos} {f : Rho → R PV} {g h : Rho → Out}
theorem ps_imp {t t' : TS} (h : PS X st t) (q : ∀ D σ H, t' D σ H → t D σ H) : PS X st t' := ⟨fun pins s σ H D I hw => h.run pins s σ H D I (q D σ H hw)⟩
theorem pss_imp {sts : List Stmt} {t t' : TS} (h : PSs X sts t) (q : ∀ D σ H, t' D σ H → t D σ H) : PSs X sts t' := ⟨fun pins s σ H D I hw => h.run pins s σ H D I (q D σ H hw)⟩
def bNil : Rho → Out := .next
def bSeq (g h : Rho → Out) : Rho → Out := fun ρ => (g ρ).then h
theorem b_nil : BJ X W nw [] bNil := by
  refine pss_imp pss_nil fun D σ H ⟨H0, O0, ρ, S, G⟩ => ?_
  exact G σ H S (Kept.refl _ _)
theorem b_cons (h1 : SJ X W nw st g) (h2 : BJ X W nw rest h) : BJ X W nw (st :: rest) (bSeq g h) := by
  refine pss_imp (pss_cons h1 h2) fun D σ H ⟨H0, O0, ρ, S, G⟩ => ⟨H0, O0, ρ, S, ?_⟩
  have G' : GotS X.K X.mg W nw H0 O0 σ ρ H D ((g ρ).then h) := G
  revert G'
  cases g ρ with
  | next ρ' => exact fun G' σ' H' S' k => ⟨H0, O0, ρ', S', GotS.later k G'⟩
  | ret p => exact fun G => G
  | brk ρ' => exact fun G => G
  | cont ρ' => exact fun G => G
  | exc c ρ' => exact fun G => G
  | stuck => exact fun G => G
/-- by an expression, then on -/
def sE (f : Rho → R PV) (k : PV → Rho → Out) : Rho → Out := fun ρ => match f ρ with
  | .ok p => k p ρ
  | .exc c => .exc c ρ
  | .stuck => .stuck
theorem got_e {K : PySem.W.Frag} {mg : Str → Option Value} {H0 H : Hp} {O0 : Addr → Prop} {σ : St} {ρ : Rho} {D : Ends} {m : Md} {k : PV → Rho → Out} {Q : VK} (S : StR K H0 O0 H σ ρ) (G : GotS K mg W nw H0 O0 σ ρ H D (sE f k ρ))
    (hk : ∀ p v H', Same H H' → RepM K O0 σ ρ m H H' v p → GotS K mg W nw H0 O0 σ ρ H D (k p ρ) → Q v H') : Got K mg W O0 σ ρ m H Q (f ρ) := by
  revert G
  unfold sE
  cases f ρ with
  | ok p => exact fun G v H' s r => hk p v H' s r G
  | exc c => exact fun G => exc_of S G
  | stuck => exact fun G => G
def sDrop (f : Rho → R PV) : Rho → Out := sE f fun _ ρ => .next ρ
theorem s_expr {m : Md} (he : EJ X W m e f) (hs : swapsWith e none pos.line X.env = pure false := by rfl) : SJ X W nw (.Expr e pos) (sDrop f) := by
  refine ps_imp (ps_expr he hs) fun D σ H ⟨H0, O0, ρ, S, G⟩ => ⟨H0, O0, ρ, S, got_e S G fun p v H' s r G => ?_⟩
  exact G σ H' (S.step s) (Kept.same s)
def sRet (f : Rho → R PV) : Rho → Out := sE f fun p _ => .ret p
theorem s_ret (he : EJ X W .s e f) : SJ X W false (.Return (some e) pos) (sRet f) := by
  refine ps_imp (ps_ret he) fun D σ H ⟨H0, O0, ρ, S, G⟩ => ⟨H0, O0, ρ, S, got_e S G fun p v H' s r G => ?_⟩
  exact G v H' (S.same.trans s) (Rep.less (fun _ z => .inl z) r)
theorem s_retF (he : EJ X W .f e f) : SJ X W true (.Return (some e) pos) (sRet f) := by
  refine ps_imp (ps_ret he) fun D σ H ⟨H0, O0, ρ, S, G⟩ => ⟨H0, O0, ρ, S, got_e S G fun p v H' s r G => ?_⟩
  obtain ⟨a, vs, ps, e1, e2, e3, e4, e5⟩ := r
  exact G v H' (S.same.trans s) ⟨a, vs, ps, e1, e2, S.same.free e3, e4, e5.less fun b z => z.elim (fun z => .inl (.inl z)) .inr⟩
/-- a list of one's own is handed back -/
def sRetO (i : Nat) : Rho → Out := fun ρ => match ρ[i]? with
  | some (.own ps) => .ret (.lst ps)
  | _ => .stuck
theorem s_retO {i : Nat} (hp : PE X e (tVar i)) : SJ X W nw (.Return (some e) pos) (sRetO i) := by
  refine ps_imp (ps_ret hp) fun D σ H ⟨H0, O0, ρ, S, G⟩ => ?_
  unfold sRetO at G
  split at G
  · rename_i ps hq
    obtain ⟨a, vs, e1, e2, e3, e4, e5⟩ := S.own i ps hq
    refine ⟨.ref a, e1, G _ _ S.same ?_⟩
    cases nw with
    | false => exact .lst e2 e4 (e5.less fun _ z => .inl z)
    | true => exact ⟨a, vs, ps, rfl, rfl, e3, e2, e5.less fun b z => z.elim .inl fun z => .inr ⟨i, ps, hq, by rw [z]; exact e1⟩⟩
  · exact G.elim
def sIf (t : Rho → R Bool) (g h : Rho → Out) : Rho → Out := fun ρ => match t ρ with
  | .ok true => g ρ
  | .ok false => h ρ
  | .exc c => .exc c ρ
  | .stuck => .stuck
theorem s_if {c : Expr} {a b : List Stmt} {t : Rho → R Bool} (hc : TJ X W c t) (ha : BJ X W nw a g) (hb : BJ X W nw b h) : SJ X W nw (.If c a b pos) (sIf t g h) := by
  refine ps_imp (ps_if hc ha hb) fun D σ H ⟨H0, O0, ρ, S, G⟩ => ⟨H0, O0, ρ, S, ?_⟩
  have G' : GotS X.K X.mg W nw H0 O0 σ ρ H D (match t ρ with
    | .ok true => g ρ
    | .ok false => h ρ
    | .exc c => .exc c ρ
    | .stuck => .stuck) := G
  revert G'
  cases t ρ with
  | ok b =>
    cases b with
    | true => exact fun G H' s => by show (if true = true then _ else _); exact iteT ⟨H0, O0, ρ, S.step s, GotS.later (Kept.same s) G⟩
    | false => exact fun G H' s => by show (if false = true then _ else _); exact iteF ⟨H0, O0, ρ, S.step s, GotS.later (Kept.same s) G⟩
  | exc c => exact fun G => exc_of S G
  | stuck => exact fun G => G
def sPass : Rho → Out := .next
def sSet (i : Nat) (f : Rho → R PV) : Rho → Out := sE f fun p ρ => .next (ρ.set i (.val p))
def sSetO (i : Nat) (f : Rho → R PV) : Rho → Out := sE f fun p ρ => match p with
  | .lst ps => .next (ρ.set i (.own ps))
  | _ => .stuck
theorem q_set {K : PySem.W.Frag} {mg : Str → Option Value} {i : Nat} {te : TE} (hte : ∀ σ H Q, tE K mg W .s f σ H Q → te σ H Q) : ∀ D σ H, tS K mg W nw (sSet i f) D σ H → tAsg te (gName i) D σ H := by
  intro D σ H ⟨H0, O0, ρ, S, G⟩
  refine hte _ _ _ ⟨H0, O0, ρ, S, got_e S G fun p v H' s r G => ?_⟩
  exact G _ H' ((S.step s).set (s := .val p) (fun _ z => nomatch z) fun q z => by cases z; exact ⟨v, rfl, r⟩) (kept_set (s := .val p) (fun _ z => nomatch z) s)
theorem q_setO {K : PySem.W.Frag} {mg : Str → Option Value} {i : Nat} {te : TE} (hte : ∀ σ H Q, tE K mg W .f f σ H Q → te σ H Q) : ∀ D σ H, tS K mg W nw (sSetO i f) D σ H → tAsg te (gName i) D σ H := by
  intro D σ H ⟨H0, O0, ρ, S, G⟩
  refine hte _ _ _ ⟨H0, O0, ρ, S, got_e S G fun p v H' s r G => ?_⟩
  obtain ⟨a, vs, ps, rfl, rfl, e3, e4, e5⟩ := r
  exact G _ H' (S.setOwn s e3 e4 e5) (kept_own e3 s)
theorem s_set {i : Nat} {x : Str} {pos' : Pos} (hN : X.N.Nodup) (hi : X.N[i]? = some x) (hx : Loc X.env.scope x) (he : EJ X W .s e f) (hs : swapsWith e (some (.Name x pos')) pos.line X.env = pure false := by rfl) (hf : X.fn x = true ∨ X.env.scope.names.lookup x = some .local := by first | exact .inl rfl | exact .inr rfl | assumption) :
    SJ X W nw (.Assign [.Name x pos'] e pos) (sSet i f) := ps_imp (ps_set hN hi hx he hs hf) (q_set fun _ _ _ z => z)
theorem s_setO {i : Nat} {x : Str} {pos' : Pos} (hN : X.N.Nodup) (hi : X.N[i]? = some x) (hx : Loc X.env.scope x) (he : EJ X W .f e f) (hs : swapsWith e (some (.Name x pos')) pos.line X.env = pure false := by rfl) (hf : X.fn x = true ∨ X.env.scope.names.lookup x = some .local := by first | exact .inl rfl | exact .inr rfl | assumption) :
    SJ X W nw (.Assign [.Name x pos'] e pos) (sSetO i f) := ps_imp (ps_set hN hi hx he hs hf) (q_setO fun _ _ _ z => z)
/-- target = e -/
def sTo (h : PV → Rho → Option Rho) (f : Rho → R PV) : Rho → Out := sE f fun p ρ => match h p ρ with
  | some ρ' => .next ρ'
  | none => .stuck
theorem s_to {tg : Expr} {ts : List Nat} {h : PV → Rho → Option Rho} (he : EJ X W .s e f) (hg : GJ X tg ts h) (hs : swapsWithSole [tg] e pos.line X.env = pure false := by rfl) (hw : swappedStores [tg] e X.env = pure none := by rfl)
    (h1 : (assignEach [tg] X.env).map (·.2) = [assign tg X.env] := by rfl) : SJ X W nw (.Assign [tg] e pos) (sTo h f) := by
  refine ps_imp (ps_asg he hg hs hw h1) fun D σ H ⟨H0, O0, ρ, S, G⟩ => ⟨H0, O0, ρ, S, got_e S G fun p v H' s r G => ?_⟩
  refine ⟨H0, O0, ρ, p, S.step s, r, ?_⟩
  revert G
  cases h p ρ with
  | none => exact False.elim
  | some ρ' => exact fun G σ' S' l _ _ => G σ' H' S' fun a o ho n => ⟨s a o ho, fun z => n (l a z)⟩
/-- a, b = x, y -/
def sPar (i j : Nat) (fA : Rho → R (List PV)) : Rho → Out := fun ρ => match fA ρ with
  | .ok [p, q] => .next ((ρ.set i (.val p)).set j (.val q))
  | .exc c => .exc c ρ
  | _ => .stuck
theorem s_par {i j : Nat} {x y : Str} {a b : Expr} {fA : Rho → R (List PV)} {px py pt : Pos} {kt k2 pt2} (hc : X.calm = true) (hN : X.N.Nodup) (hi : X.N[i]? = some x) (hj : X.N[j]? = some y) (hij : i ≠ j)
    (hx : X.env.scope.names.lookup x = some .local) (hy : X.env.scope.names.lookup y = some .local) (ha : AJ X W .s [a, b] fA)
    (hw : swappedStores [.Tuple [.Name x px, .Name y py] kt pt] (.Tuple [a, b] k2 pt2) X.env = pure (some [x, y]))
    (hs : swapsWithSole [.Tuple [.Name x px, .Name y py] kt pt] (.Tuple [a, b] k2 pt2) pos.line X.env = pure false := by rfl) :
    SJ X W nw (.Assign [.Tuple [.Name x px, .Name y py] kt pt] (.Tuple [a, b] k2 pt2) pos) (sPar i j fA) := by
  refine ps_imp (ps_par hc hN hi hj hij hx hy ha hw hs) fun D σ H ⟨H0, O0, ρ, S, G⟩ => ⟨H0, O0, ρ, S, ?_⟩
  unfold sPar at G
  revert G
  cases fA ρ with
  | stuck => exact False.elim
  | exc c => exact fun G => exc_of S G
  | ok ps =>
    match ps with
    | [p, q] =>
      intro G vs H' s r
      obtain ⟨v, w, rfl, r1, r2⟩ := pr2 r
      refine ⟨v, w, rfl, ?_⟩
      have S1 := S.step s
      have S2 := S1.set (i := i) (v := some v) (s := .val p) (fun _ z => nomatch z) fun q z => by cases z; exact ⟨v, rfl, r1⟩
      have l1 : ∀ a, OO O0 (σ.set i (some v)) (ρ.set i (.val p)) a → OO O0 σ ρ a := fun a z => OO.set_val (s := .val p) (fun _ z => nomatch z) z
      have r2' : Rep X.K H' (OO O0 (σ.set i (some v)) (ρ.set i (.val p))) w q := Rep.less l1 r2
      have S3 := S2.set (i := j) (v := some w) (s := .val q) (fun _ z => nomatch z) fun q' z => by cases z; exact ⟨w, rfl, r2'⟩
      exact G _ H' S3 fun a o ho n => ⟨s a o ho, fun z => n (l1 a (OO.set_val (s := .val q) (fun _ z => nomatch z) z))⟩
    | [] => exact False.elim
    | [_] => exact False.elim
    | _ :: _ :: _ :: _ => exact False.elim
/-- x op= e, by values -/
def sAug (i : Nat) (g : PV → PV → R PV) (f : Rho → R PV) : Rho → Out := fun ρ => match ρ[i]? with
  | some (.val x) => sE (fun ρ => (f ρ).bind fun y => g x y) (fun z ρ => .next (ρ.set i (.val z))) ρ
  | _ => .stuck
theorem s_aug {i : Nat} {x : Str} {op : Operator} {r : R2} {g : PV → PV → R PV} {pos' : Pos} (hN : X.N.Nodup) (hi : X.N[i]? = some x) (hx : Loc X.env.scope x) (he : EJ X W .t e f) (hr : OpR X (inplaceOp op) r) (hg : ∀ p q c, g p q ≠ .exc c) (ho : OpS X.K r .t .t .s g) (hf : X.fn x = true ∨ X.env.scope.names.lookup x = some .local := by first | exact .inl rfl | exact .inr rfl | assumption) :
    SJ X W nw (.AugAssign (.Name x pos') op e pos) (sAug i g f) := by
  refine ps_imp (ps_aug hN hi hx he (ti := r) (fun pins s σ H x y v u Q I r1 r2 h => hr pins s σ H x y v u Q I r1 r2 h) hf) fun D σ H ⟨H0, O0, ρ, S, G⟩ => ?_
  unfold sAug at G
  split at G
  · rename_i p hp
    obtain ⟨v, e1, e2⟩ := S.val i p hp
    refine ⟨v, e1, H0, O0, ρ, S, ?_⟩
    have G' : GotS X.K X.mg W nw H0 O0 σ ρ H D (match (f ρ).bind fun y => g p y with
      | .ok z => .next (ρ.set i (.val z))
      | .exc c => .exc c ρ
      | .stuck => .stuck) := G
    revert G'
    cases f ρ with
    | stuck => exact False.elim
    | exc c => exact fun G => exc_of S G
    | ok q =>
      intro G y H1 s1 r1
      refine ho S s1 (RepM.s_t (H := H) (Rep.same s1 e2)) r1 ?_
      revert G
      rw [R.bind_ok]
      cases hz : g p q with
      | stuck => exact False.elim
      | exc c => exact absurd hz (hg p q c)
      | ok z => exact fun G w H2 s2 r2 => G _ H2 ((S.step (s1.trans s2)).set (s := .val z) (fun _ z => nomatch z) fun q z => by cases z; exact ⟨w, rfl, r2⟩) (kept_set (s := .val z) (fun _ z => nomatch z) (s1.trans s2))
  · exact G.elim
theorem s_augAdd {i : Nat} {x : Str} {pos' : Pos} (hN : X.N.Nodup) (hi : X.N[i]? = some x) (hx : Loc X.env.scope x) (he : EJ X W .t e f) (hf : X.fn x = true ∨ X.env.scope.names.lookup x = some .local := by first | exact .inl rfl | exact .inr rfl | assumption) :
    SJ X W nw (.AugAssign (.Name x pos') .Add e pos) (sAug i (intP (fun _ _ => true) fun a b => .int (a + b)) f) := s_aug hN hi hx he iop_add intP_exc (s_int0 fun _ _ _ _ => .int _) hf
theorem s_augMul {i : Nat} {x : Str} {pos' : Pos} (hN : X.N.Nodup) (hi : X.N[i]? = some x) (hx : Loc X.env.scope x) (he : EJ X W .t e f) (hf : X.fn x = true ∨ X.env.scope.names.lookup x = some .local := by first | exact .inl rfl | exact .inr rfl | assumption) :
    SJ X W nw (.AugAssign (.Name x pos') .Mult e pos) (sAug i mulP f) := s_aug hN hi hx he iop_mulW intP_exc (s_int (fun _ _ h => of_decide_eq_true h) fun _ _ _ _ => .int _) hf
/-- a list is let go -/
def sFrz (i : Nat) (g : Rho → Out) : Rho → Out := fun ρ => match ρ[i]? with
  | some (.own ps) => g (ρ.set i (.val (.lst ps)))
  | _ => g ρ
theorem s_frz {i : Nat} {sts : List Stmt} (h : BJ X W nw sts g) : BJ X W nw sts (sFrz i g) := by
  refine pss_imp h fun D σ H ⟨H0, O0, ρ, S, G⟩ => ?_
  unfold sFrz at G
  split at G
  · rename_i ps hp
    have k : Kept (OO O0 σ ρ) H (OO O0 σ (ρ.set i (.val (.lst ps)))) H := fun a o h n => ⟨h, fun z => n (by
      rcases z with z | ⟨j, qs, h1, h2⟩
      · exact .inl z
      · by_cases e : i = j
        · subst e
          rw [List.getElem?_set_self (List.getElem?_eq_some_iff.mp hp).1] at h1; cases h1
        · rw [List.getElem?_set_ne e] at h1
          exact .inr ⟨j, qs, h1, h2⟩)⟩
    exact ⟨H0, O0, _, S.freeze hp, GotS.later k G⟩
  · exact ⟨H0, O0, ρ, S, G⟩
end
end PL
set_option Elab.async false
set_option linter.all false
set_option maxRecDepth 100000
set_option autoImplicit false
namespace PL
open PySem PySem.Spec L2
open PyProof.Rows hiding St
section
variable {X : Cx} {W : WX} {nw : Bool} {st : Stmt} {rest : List Stmt} {e : Expr} {pos : Pos} {f : Rho → R PV} {g h : Rho → Out}
def forL (tgt : PV → Rho → Option Rho) (body : Rho → Out) : List PV → Rho → Out
  | [], ρ => .next ρ
  | p :: ps, ρ => match tgt p ρ with
    | none => .stuck
    | some ρ1 => match body ρ1 with
      | .next ρ' => forL tgt body ps ρ'
      | .cont ρ' => forL tgt body ps ρ'
      | .brk ρ' => .next ρ'
      | o => o
def sFor (it : Rho → R (List PV)) (tgt : PV → Rho → Option Rho) (body : Rho → Out) : Rho → Out := fun ρ => match it ρ with
  | .ok items => forL tgt body items ρ
  | .exc c => .exc c ρ
  | .stuck => .stuck
theorem s_for {tg it : Expr} {body : List Stmt} {wi : Rho → R (List PV)} {tgt : PV → Rho → Option Rho} {ts : List Nat} (hp : PassesOwn (model X.prog X.w) X.A X.env X.xe) (hc : X.calm = true) (hi : IJ X W tg it wi) (hg : GJ X tg ts tgt) (hb : BJ X W nw body g) (hs : ∀ x, foldedSetIterable it X.env x = pure x := by intro _; rfl) : SJ X W nw (.For tg it body [] pos) (sFor wi tgt g) := by
  refine ps_imp (ps_for hp hc hi hg hb hs) fun D σ H ⟨H0, O0, ρ, S, G⟩ => ⟨H0, O0, ρ, S, ?_⟩
  have G' : GotS X.K X.mg W nw H0 O0 σ ρ H D (match wi ρ with
    | .ok items => forL tgt g items ρ
    | .exc c => .exc c ρ
    | .stuck => .stuck) := G
  revert G'
  cases wi ρ with
  | stuck => exact False.elim
  | exc c => exact fun G => exc_of S G
  | ok items =>
    intro G J H1 s1 ok
    refine ⟨fun i m σc Hc => m = items.length - i ∧ i ≤ items.length ∧ ∃ ρc, StR X.K H0 O0 Hc σc ρc ∧ Kept (OO O0 σ ρ) H1 (OO O0 σc ρc) Hc ∧ GotS X.K X.mg W nw H0 O0 σc ρc Hc D (forL tgt g (items.drop i) ρc),
      ⟨items.length, by simp, Nat.zero_le _, ρ, S.step s1, Kept.refl _ _, by rw [List.drop_zero]; exact GotS.later (Kept.same s1) G⟩, ?_⟩
    rintro i m σc Hc ⟨rfl, hi, ρc, Sc, kc, Gc⟩
    by_cases hlt : i < items.length
    · refine .inr ⟨ok.go i Hc _ kc hlt, fun σ' H' => ∃ ρ', StR X.K H0 O0 H' σ' ρ' ∧ Kept (OO O0 σ ρ) H1 (OO O0 σ' ρ') H' ∧ GotS X.K X.mg W nw H0 O0 σ' ρ' H' D (forL tgt g (items.drop (i + 1)) ρ'), fun σ' H' n => ⟨items.length - (i + 1), by omega, rfl, hlt, n⟩, fun x Hy hy => ?_⟩
      have hg : items[i]? = some items[i] := List.getElem?_eq_getElem hlt
      obtain ⟨sy, ry⟩ := ok.yld i Hc _ x Hy _ kc (fun a z => Sc.there z) hg hy
      have hdr : items.drop i = items[i] :: items.drop (i + 1) := List.drop_eq_getElem_cons hlt
      rw [hdr] at Gc
      refine ⟨H0, O0, ρc, items[i], Sc.step sy, ry, ?_⟩
      unfold forL at Gc
      revert Gc
      cases tgt items[i] ρc with
      | none => exact False.elim
      | some ρ1 =>
        intro Gc σ2 S2 l2 _ _
        have k2 : Kept (OO O0 σc ρc) Hc (OO O0 σ2 ρ1) Hy := fun a o h n => ⟨sy a o h, fun z => n (l2 a z)⟩
        refine ⟨H0, O0, ρ1, S2, ?_⟩
        have Gc' := GotS.later k2 Gc
        revert Gc'
        dsimp only
        cases g ρ1 with
        | next ρ' => exact fun Gc' σ' H' S' k' => ⟨ρ', S', (kc.trans k2).trans k', GotS.later k' Gc'⟩
        | cont ρ' => exact fun Gc' σ' H' S' k' => ⟨ρ', S', (kc.trans k2).trans k', GotS.later k' Gc'⟩
        | brk ρ' => exact fun G => G
        | ret p => exact fun G => G
        | exc c ρ' => exact fun G => G
        | stuck => exact fun G => G
    · have e : i = items.length := by omega
      subst e
      rw [List.drop_length] at Gc
      exact .inl ⟨ok.stop _ Hc _ kc (Nat.le_refl _), Gc σc Hc Sc (Kept.refl _ _)⟩
def whN (t : Rho → R Bool) (b : Rho → Out) : Nat → Rho → Out
  | 0, _ => .stuck
  | n + 1, ρ => match t ρ with
    | .stuck => .stuck
    | .exc c => .exc c ρ
    | .ok false => .next ρ
    | .ok true => match b ρ with
      | .next ρ' => whN t b n ρ'
      | .cont ρ' => whN t b n ρ'
      | .brk ρ' => .next ρ'
      | o => o
theorem whN_more {t : Rho → R Bool} {b : Rho → Out} : ∀ (n : Nat) (ρ : Rho), whN t b n ρ ≠ .stuck → whN t b (n + 1) ρ = whN t b n ρ
  | 0, ρ, h => absurd rfl h
  | n + 1, ρ, h => by
    unfold whN at h
    rw [whN]
    conv => rhs; rw [whN]
    revert h
    cases t ρ with
    | stuck => exact fun _ => rfl
    | exc c => exact fun _ => rfl
    | ok k =>
      cases k with
      | false => exact fun _ => rfl
      | true =>
        dsimp only
        cases b ρ with
        | next ρ' => exact fun h => whN_more n ρ' h
        | cont ρ' => exact fun h => whN_more n ρ' h
        | _ => exact fun _ => rfl
theorem whN_le {t : Rho → R Bool} {b : Rho → Out} {n m : Nat} {ρ : Rho} (h : whN t b n ρ ≠ .stuck) (hl : n ≤ m) : whN t b m ρ = whN t b n ρ := by
  induction m with
  | zero => rw [Nat.le_zero.mp hl]
  | succ m ih =>
    by_cases e : n = m + 1
    · rw [e]
    · have q := ih (by omega)
      rw [whN_more m ρ (by rw [q]; exact h), q]
open Classical in
noncomputable def sWh (t : Rho → R Bool) (b : Rho → Out) (ρ : Rho) : Out := if h : ∃ n, whN t b n ρ ≠ .stuck then whN t b h.choose ρ else .stuck
theorem sWh_of {t : Rho → R Bool} {b : Rho → Out} {n : Nat} {ρ : Rho} (h : whN t b n ρ ≠ .stuck) : sWh t b ρ = whN t b n ρ := by
  have hx : ∃ n, whN t b n ρ ≠ .stuck := ⟨n, h⟩
  unfold sWh
  rw [dif_pos hx]
  have hc := hx.choose_spec
  rcases Nat.le_total n hx.choose with l | l
  · exact whN_le h l
  · exact (whN_le hc l).symm
theorem sWh_ex {t : Rho → R Bool} {b : Rho → Out} {ρ : Rho} (h : sWh t b ρ ≠ .stuck) : ∃ n, whN t b n ρ = sWh t b ρ := by
  by_cases hx : ∃ n, whN t b n ρ ≠ .stuck
  · obtain ⟨n, hn⟩ := hx
    exact ⟨n, (sWh_of hn).symm⟩
  · unfold sWh at h
    rw [dif_neg hx] at h
    exact absurd rfl h
/-- one turn -/
theorem sWh_eq (t : Rho → R Bool) (b : Rho → Out) (ρ : Rho) : sWh t b ρ = (match t ρ with
    | .stuck => .stuck
    | .exc c => .exc c ρ
    | .ok false => .next ρ
    | .ok true => match b ρ with
      | .next ρ' => sWh t b ρ'
      | .cont ρ' => sWh t b ρ'
      | .brk ρ' => .next ρ'
      | o => o) := by
  have go : ∀ ρ', (∀ n, whN t b (n + 1) ρ = whN t b n ρ') → sWh t b ρ = sWh t b ρ' := fun ρ' q => by
    by_cases h : sWh t b ρ' = .stuck
    · rw [h]
      by_cases h2 : sWh t b ρ = .stuck
      · exact h2
      · obtain ⟨n, hn⟩ := sWh_ex h2
        have hn' : whN t b n ρ ≠ .stuck := by rw [hn]; exact h2
        have e : whN t b n ρ' ≠ .stuck := by rw [← q n, whN_more n ρ hn']; exact hn'
        rw [sWh_of e] at h
        exact absurd h e
    · obtain ⟨n, hn⟩ := sWh_ex h
      have e : whN t b (n + 1) ρ ≠ .stuck := by rw [q n, hn]; exact h
      rw [sWh_of e, q n, hn]
  have one : ∀ o, o ≠ .stuck → whN t b 1 ρ = o → sWh t b ρ = o := fun o ho e => by rw [← e]; exact sWh_of (by rw [e]; exact ho)
  have non : (∀ n, whN t b n ρ = .stuck) → sWh t b ρ = .stuck := fun q => by
    unfold sWh
    rw [dif_neg (fun ⟨n, hn⟩ => hn (q n))]
  cases ht : t ρ with
  | stuck => exact non fun n => by cases n with | zero => rfl | succ n => rw [whN, ht]
  | exc c => exact one _ (fun z => nomatch z) (by rw [whN, ht])
  | ok k =>
    cases k with
    | false => exact one _ (fun z => nomatch z) (by rw [whN, ht])
    | true =>
      dsimp only
      cases hb : b ρ with
      | next ρ' => exact go ρ' fun n => by rw [whN, ht]; dsimp only; rw [hb]
      | cont ρ' => exact go ρ' fun n => by rw [whN, ht]; dsimp only; rw [hb]
      | brk ρ' => exact one _ (fun z => nomatch z) (by rw [whN, ht]; dsimp only; rw [hb])
      | ret p => exact one _ (fun z => nomatch z) (by rw [whN, ht]; dsimp only; rw [hb])
      | exc c ρ' => exact one _ (fun z => nomatch z) (by rw [whN, ht]; dsimp only; rw [hb])
      | stuck => exact non fun n => by cases n with | zero => rfl | succ n => rw [whN, ht]; dsimp only; rw [hb]
theorem s_while {c : Expr} {body : List Stmt} {t : Rho → R Bool} (hp : PassesOwn (model X.prog X.w) X.A X.env X.xe) (hc : TJ X W c t) (hb : BJ X W nw body g) : SJ X W nw (.While c body [] pos) (sWh t g) := by
  refine ps_imp (ps_while hp hc hb) fun D σ H ⟨H0, O0, ρ, S, G⟩ => ?_
  have ns : sWh t g ρ ≠ .stuck := fun z => by rw [z] at G; exact G
  obtain ⟨n, hn⟩ := sWh_ex ns
  rw [← hn] at G
  refine ⟨fun m σc Hc => ∃ ρc, StR X.K H0 O0 Hc σc ρc ∧ GotS X.K X.mg W nw H0 O0 σc ρc Hc D (whN t g m ρc), ⟨n, ρ, S, G⟩, ?_⟩
  rintro m σc Hc ⟨ρc, Sc, Gc⟩
  cases m with
  | zero => exact Gc.elim
  | succ m =>
    refine ⟨H0, O0, ρc, Sc, ?_⟩
    unfold whN at Gc
    revert Gc
    cases t ρc with
    | stuck => exact False.elim
    | exc c => exact fun G => exc_of Sc G
    | ok k =>
      cases k with
      | false => exact fun G H1 s1 => iteF (G σc H1 (Sc.step s1) (Kept.same s1))
      | true =>
        dsimp only
        intro G H1 s1
        refine iteT ⟨fun σ' H' => ∃ ρ', StR X.K H0 O0 H' σ' ρ' ∧ GotS X.K X.mg W nw H0 O0 σ' ρ' H' D (whN t g m ρ'), fun σ' H' z => ⟨m, Nat.lt_succ_self m, z⟩, H0, O0, ρc, Sc.step s1, ?_⟩
        have G' := GotS.later (Kept.same s1) G
        revert G'
        cases g ρc with
        | next ρ' => exact fun Gc' σ' H' S' k' => ⟨ρ', S', GotS.later k' Gc'⟩
        | cont ρ' => exact fun Gc' σ' H' S' k' => ⟨ρ', S', GotS.later k' Gc'⟩
        | brk ρ' => exact fun G => G
        | ret p => exact fun G => G
        | exc c ρ' => exact fun G => G
        | stuck => exact fun G => G
theorem kept_write {O0 : Addr → Prop} {σ : St} {ρ : Rho} {H : Hp} {i : Nat} {a : Addr} {ps qs : List PV} {ws : List V} (h1 : ρ[i]? = some (.own ps)) (h2 : σ[i]? = some (some (.ref a))) : Kept (OO O0 σ ρ) H (OO O0 σ (ρ.set i (.own qs))) (upd H a (.lst ws)) := fun b o h n =>
  ⟨by rw [upd_ne (fun z => n (by rw [z]; exact .inr ⟨i, ps, h1, h2⟩))]; exact h, fun z => n (by
    rcases z with z | ⟨j, rs, e1, e2⟩
    · exact .inl z
    · by_cases e : i = j
      · subst e; exact .inr ⟨i, ps, h1, e2⟩
      · rw [List.getElem?_set_ne e] at e1; exact .inr ⟨j, rs, e1, e2⟩)⟩
/-- by the list of slot i and a value -/
def sMut (i : Nat) (g : List PV → PV → R (List PV)) (f : Rho → R PV) : Rho → Out := fun ρ => match ρ[i]? with
  | some (.own ps) => sE f (fun p ρ => match g ps p with
    | .ok qs => .next (ρ.set i (.own qs))
    | _ => .stuck) ρ
  | _ => .stuck
def appP (ps : List PV) (p : PV) : R (List PV) := if ps.length < sizeLine then .ok (ps ++ [p]) else .stuck
variable {o : Expr} {apos : Pos} {i : Nat}
theorem s_app (ho : PE X o (tVar i)) (he : EJ X W .s e f) (hs : swapsWith (.Call (.Attribute o "append" apos) [e] [] pos) none pos.line X.env = pure false := by rfl)
    (hbase : attributeBase o "append" X.env (eval o X.env) = eval o X.env := by rfl)
    (hfew : ((backTo pos (starEach [e] X.env)).all (fun x => !x.1) && (backToKw pos (keywordEach [] X.env)).all (fun x => x.1.isSome)
      && decide ([e].length + ([] : List Keyword).length + (if ([] : List Keyword).isEmpty then 0 else 1) < 30)) = true := by rfl)
    (hline : (apos.endLine == pos.line) = true := by rfl) (hs1 : starEach [e] X.env = (false, eval e X.env) :: starEach [] X.env := by rfl) (hplain : (backTo pos (starEach [] X.env)).any (·.1) = false := by rfl) :
    SJ X W nw (.Expr (.Call (.Attribute o "append" apos) [e] [] pos) pos) (sMut i appP f) := by
  refine ps_imp (ps_expr (pe_bm PySem.F.plainAttrs_list PySem.F.slot_list_append PySem.F.type_list_append mt_append ho (pa_cons he pa_nil hs1) hbase hfew hline hs1 hplain) hs) fun D σ H ⟨H0, O0, ρ, S, G⟩ => ?_
  unfold sMut at G
  split at G
  · rename_i ps hp
    obtain ⟨a, vs, e1, e2, e3, e4, e5⟩ := S.own i ps hp
    refine ⟨.ref a, e1, .inl ⟨rfl, vs, .inl (.inl e2)⟩, H0, O0, ρ, S, got_e S G fun p v H1 s1 r1 G => ?_⟩
    unfold appP at G
    split at G
    · rename_i qs hq
      split at hq
      · rename_i hz
        cases hq
        have r5 := (e5.same s1).append (.cons (show Rep X.K H1 (OO O0 σ ρ) v p from r1) .nil)
        exact ⟨a, vs, v, rfl, rfl, s1 _ _ e2, by rw [e5.length]; exact hz, G _ _ ((S.step s1).write hp e1 r5) ((Kept.same s1).trans (kept_write hp e1))⟩
      · cases hq
    · exact G.elim
  · exact G.elim
/-- xs[j] = e -/
def setP (ps : List PV) (p : PV) : PV → R (List PV)
  | .int k => match ixN ps.length k with
    | some j => .ok (ps.set j p)
    | none => .stuck
  | _ => .stuck
def sSetI (i : Nat) (f fi : Rho → R PV) : Rho → Out := fun ρ => match ρ[i]? with
  | some (.own ps) => sE f (fun p => sE fi fun q ρ => match setP ps p q with
    | .ok qs => .next (ρ.set i (.own qs))
    | _ => .stuck) ρ
  | _ => .stuck
/-- what is known of a class of errors of the text's own -/
structure ExcT (K : PySem.W.Frag) (mg : Str → Option Value) (x : Str) (C : Addr) : Prop where
  g : mg x = some (.ref C)
  ex : PySem.W.excIn K C [.type "ValueError", .type "Exception", .type "BaseException", .type "object"] "ValueError.__new__" = true
  kp : PySem.W.keepIn K (.ref C) = true
  sb : PySem.W.subIn K (.ref C) (.type "BaseException") = some true
  ty : PySem.W.typeIn K (.ref C) = some (.type "type")
def sRaise (x : Str) : Rho → Out := .exc x
theorem s_raise {x m : Str} {C : Addr} {j : Nat} {p p2 p3 : Pos} (T : ExcT X.K X.mg x C) (hc : X.calm = true) (tk : L2N.Takes X W) (hg : Gl X x) (hdb : (x == ("__debug__" : Str)) = false := by decide) : SJ X W nw (.Raise (some (.Call (.Name x p) [.Constant (.str m) j p2] [] p3)) none pos) (sRaise x) := by
  refine ps_imp (L2N.ps_raise hc tk (L2N.pmk_own PySem.F.excBase_ValueError T.ex T.g T.kp (raises_own T.sb T.ty) hg hdb)) fun D σ H ⟨H0, O0, ρ, S, G⟩ => ?_
  exact G C σ H T.g S (Kept.refl _ _)
end
def runF (n : Nat) (g : Rho → Out) : List PV → R PV := fun ps => match g (ps.map Slot.val ++ List.replicate (n - ps.length) Slot.un) with
  | .ret p => .ok p
  | .next _ => .ok .non
  | .exc c _ => .exc c
  | _ => .stuck
theorem start_st {K : PySem.W.Frag} {H : Hp} {O : Addr → Prop} {vs : List V} {ps : List PV} {N : List Str} (al : ∀ a, O a → H a ≠ none) (r : Reps K H O vs ps) : StR K H O H (L2.start N vs) (ps.map Slot.val ++ List.replicate (N.length - ps.length) Slot.un) := by
  have hl := r.length
  have noown : ∀ (i : Nat) qs, (ps.map Slot.val ++ List.replicate (N.length - ps.length) Slot.un)[i]? ≠ some (.own qs) := fun i qs e => by
    have := List.mem_of_getElem? e
    rcases List.mem_append.mp this with z | z
    · obtain ⟨p, _, z⟩ := List.mem_map.mp z
      cases z
    · cases (List.mem_replicate.mp z).2
  have oo : ∀ a, OO O (L2.start N vs) (ps.map Slot.val ++ List.replicate (N.length - ps.length) Slot.un) a → O a := fun a z => by
    rcases z with z | ⟨i, qs, h1, _⟩
    · exact z
    · exact absurd h1 (noown i qs)
  refine ⟨by unfold L2.start; simp [hl], Same.refl H, al, fun i qs h => absurd h (noown i qs), fun i j a qs rs h => absurd h (noown i qs), fun i p h => ?_, (fun i a h => by
    have := List.mem_of_getElem? h
    rcases List.mem_append.mp this with z | z
    · obtain ⟨p, _, z⟩ := List.mem_map.mp z
      cases z
    · cases (List.mem_replicate.mp z).2), fun i a l h => by
    have := List.mem_of_getElem? h
    rcases List.mem_append.mp this with z | z
    · obtain ⟨p, _, z⟩ := List.mem_map.mp z
      cases z
    · cases (List.mem_replicate.mp z).2⟩
  by_cases hi : i < ps.length
  · rw [List.getElem?_append_left (by rw [List.length_map]; exact hi), List.getElem?_map] at h
    cases hq : ps[i]? with
    | none => rw [hq] at h; cases h
    | some q =>
      rw [hq] at h
      cases h
      obtain ⟨v, h1, h2⟩ := r.get hq
      refine ⟨v, ?_, h2.less oo⟩
      unfold L2.start
      rw [List.getElem?_append_left (by rw [List.length_map, hl]; exact hi), List.getElem?_map, h1]
      rfl
  · rw [List.getElem?_append_right (by rw [List.length_map]; omega)] at h
    have := List.mem_of_getElem? h
    cases (List.mem_replicate.mp this).2
section
variable {P : Program} {w : World} {K : PySem.W.Frag} {mg : Str → Option Value} {base : Heap}
theorem Fun_okN {x qual : Str} {st : Stmt} {f : Addr} {fd : FuncData} {N ps : List Str} {k : Nat} {sp : Sp} (F : Fun K x qual st f fd) (S : FnScope N ps (defScope st)) (len : ∀ vs H Q E, sp vs H Q E → vs.length = ps.length)
    (hbody : ∀ (cdv : Value) (A : Around) (outer : List PySem.Env) (s : Shared) (H : Hp) (vs : List V) (Q : VK) (E : XK), Room k (A.deeper (envOfC qual (defScope st) s.heap.objs.size f cdv)) → sp vs H Q E →
      ∃ t, PSs (cxOf (L2N.CX P w) P w K mg base N qual (defScope st) f cdv A outer s H E) (defBody st) t ∧ t { nx := fun _ H' => Q .non H', rt := Q } (L2.start N vs) H) : FnOk P w K mg base (L2N.CX P w) (k + 1) f fd ps sp := by
  obtain ⟨oc, od, kV, doc, pm, an, cdv, ct, osl, rfl, lk, hcd⟩ := F.ex
  exact fn_of lk hcd S len fun A outer s H vs Q E hr hsp => hbody cdv A outer s H vs Q E hr hsp
theorem fn_mk {x qual : Str} {st : Stmt} {f : Addr} {fd : FuncData} {N ps : List Str} {k n : Nat} {nw : Bool} {g : Rho → Out} (F : Fun K x qual st f fd) (S : FnScope N ps (defScope st)) (hn : n = ps.length) (hnw : nw = true → ∀ l, ∀ ρ, g l ≠ .next ρ)
    (hbody : ∀ (cdv : Value) (A : Around) (outer : List PySem.Env) (s : Shared) (H : Hp) (E : XK), Room k (A.deeper (envOfC qual (defScope st) s.heap.objs.size f cdv)) →
      BJ (cxOf (L2N.CX P w) P w K mg base N qual (defScope st) f cdv A outer s H E) (fun cls d _ H => E cls d H) nw (defBody st) g) :
    FnOk P w K mg base (L2N.CX P w) (k + 1) f fd ps (spF K mg n nw (runF N.length g)) := by
  refine Fun_okN F S (fun vs H Q E h => ?_) (fun cdv A outer s H vs Q E hr h => ?_)
  · obtain ⟨_, _, _, _, e, _⟩ := h
    rw [e, hn]
  · obtain ⟨qs, O, al, r, e, h⟩ := h
    refine ⟨_, hbody cdv A outer s H E hr, H, O, _, start_st al r, ?_⟩
    have h' : (match runF N.length g qs with
      | .ok p => ∀ v H', Same H H' → RepR K O nw H H' v p → Q v H'
      | .exc c => ∀ C H', Same H H' → mg c = some (.ref C) → E (.ref C) none H'
      | .stuck => False) := h
    unfold runF at h'
    revert h'
    cases hg : g (qs.map Slot.val ++ List.replicate (N.length - qs.length) Slot.un) with
    | ret p => exact fun h v H' s r => h v H' s r
    | next ρ' =>
      intro h σ' H' S' _
      cases nw with
      | false => exact h _ _ S'.same .non
      | true => exact absurd hg (hnw rfl _ _)
    | exc c ρ' => exact fun h C σ' H' e S' _ => h C H' S'.same e
    | brk ρ' => exact False.elim
    | cont ρ' => exact False.elim
    | stuck => exact False.elim
/-- from inside a def: what a body's statements need of its context -/
theorem tk_of {N : List Str} {qual : Str} {scope : Scope} {f : Addr} {cdv : Value} {A : Around} {outer : List PySem.Env} {s : Shared} {H : Hp} {E : XK} : L2N.Takes (cxOf (L2N.CX P w) P w K mg base N qual scope f cdv A outer s H E) (fun cls d _ H => E cls d H) := L2N.takes_of rfl rfl rfl rfl
theorem hp_of {N : List Str} {qual : Str} {scope : Scope} {f : Addr} {cdv : Value} {A : Around} {outer : List PySem.Env} {s : Shared} {H : Hp} {E : XK} : PassesOwn (model P w) (cxOf (L2N.CX P w) P w K mg base N qual scope f cdv A outer s H E).A (cxOf (L2N.CX P w) P w K mg base N qual scope f cdv A outer s H E).env (cxOf (L2N.CX P w) P w K mg base N qual scope f cdv A outer s H E).xe := passes_of rfl
end
structure DefT (K : PySem.W.Frag) (mg : Str → Option Value) (x : Str) (st : Stmt) (ps : List Str) (f : Addr) (fd : FuncData) : Prop where
  F : Fun K x x st f fd
  g : mg x = some (.ref f)
  b : L2.Binds K fd ps []
def DefE (K : PySem.W.Frag) (mg : Str → Option Value) (x : Str) (st : Stmt) (ps : List Str) : Prop := ∃ f fd, DefT K mg x st ps f fd
def Okd (P : Program) (w : World) (K : PySem.W.Frag) (mg : Str → Option Value) (base : Heap) (x : Str) (ps : List Str) (k n : Nat) (nw : Bool) (F : List PV → R PV) : Prop :=
  ∃ f fd, mg x = some (.ref f) ∧ PySem.W.keepIn K (.ref f) = true ∧ L2.Binds K fd ps [] ∧ FnOk P w K mg base (L2N.CX P w) k f fd ps (spF K mg n nw F)
section
variable {P : Program} {w : World} {K : PySem.W.Frag} {mg : Str → Option Value} {base : Heap}
theorem def_ok {x : Str} {st : Stmt} {N ps : List Str} {k n : Nat} {nw : Bool} {g : Rho → Out} (T : DefE K mg x st ps) (S : FnScope N ps (defScope st)) (hn : n = ps.length) (hnw : nw = true → ∀ l, ∀ ρ, g l ≠ .next ρ)
    (hbody : ∀ (f : Addr) (cdv : Value) (A : Around) (outer : List PySem.Env) (s : Shared) (H : Hp) (E : XK), Room k (A.deeper (envOfC x (defScope st) s.heap.objs.size f cdv)) →
      BJ (cxOf (L2N.CX P w) P w K mg base N x (defScope st) f cdv A outer s H E) (fun cls d _ H => E cls d H) nw (defBody st) g) :
    Okd P w K mg base x ps (k + 1) n nw (runF N.length g) := by
  obtain ⟨f, fd, T⟩ := T
  exact ⟨f, fd, T.g, T.F.kp, T.b, fn_mk T.F S hn hnw (hbody f)⟩
variable {X : Cx} {W : WX} {e : Expr} {es : List Expr} {pos p : Pos} {fA : Rho → R (List PV)}
theorem aCons_len {f : Rho → R PV} {g : Rho → R (List PV)} {n : Nat} (h : ∀ ρ ps, g ρ = .ok ps → ps.length = n) : ∀ ρ ps, aCons f g ρ = .ok ps → ps.length = n + 1 := by
  intro ρ ps e
  unfold aCons at e
  revert e
  cases f ρ with
  | ok a =>
    rw [R.bind_ok]
    cases hg : g ρ with
    | ok qs =>
      intro e
      cases e
      rw [List.length_cons, h ρ qs hg]
    | exc c => exact fun e => nomatch e
    | stuck => exact fun e => nomatch e
  | exc c => exact fun e => nomatch e
  | stuck => exact fun e => nomatch e
theorem aNil_len : ∀ ρ ps, aNil ρ = .ok ps → ps.length = 0 := by
  intro ρ ps e
  cases e
  rfl
/-- the parts' lengths, read off the syntax -/
inductive ALen : (Rho → R (List PV)) → Nat → Prop where
  | nil : ALen aNil 0
  | cons {f : Rho → R PV} {g : Rho → R (List PV)} {n : Nat} : ALen g n → ALen (aCons f g) (n + 1)
theorem ALen.ok {g : Rho → R (List PV)} {n : Nat} (h : ALen g n) : ∀ ρ ps, g ρ = .ok ps → ps.length = n := by
  induction h with
  | nil => exact aNil_len
  | cons _ ih => exact aCons_len ih
theorem e_callD {x : Str} {k j n : Nat} {nw : Bool} {F : List PV → R PV} {pn : List Str} (h : Okd X.prog X.w X.K X.mg X.base x pn j n nw F) (hr : Room k X.A) (hjk : j ≤ k) (tk : L2N.Takes X W) (hg : Gl X x) (ha : AJ X W .s (e :: es) fA) (hal : ALen fA n) (hlen : n = es.length + 1 := by rfl) (hdb : (x == ("__debug__" : Str)) = false := by decide)
    (he : starEach (e :: es) X.env = (false, eval e X.env) :: starEach es X.env := by rfl) (hpl : (backTo pos (starEach es X.env)).any (·.1) = false := by rfl) : EJ X W (mdR nw) (.Call (.Name x p) (e :: es) [] pos) (eD F fA) := by
  obtain ⟨f, fd, h1, h2, h3, h4⟩ := h
  have q := e_call (p := p) (pos := pos) (dvs := []) (dps := []) (ds := []) h4 (hr.mono hjk) hg h1 h2 h3 .nil (fun _ _ => .nil) tk ha (by rw [hlen]; rfl) (by rw [← hlen]; exact hal.ok) hdb he hpl
  have e' : eD (fun ps => F (ps ++ [])) fA = eD F fA := by
    funext ρ
    unfold eD
    congr
    funext ps
    rw [List.append_nil]
  rw [e'] at q
  exact q
theorem passLN {X : Cx} : Passes (L2N.CX X.prog X.w) X E0 := fun _ _ _ _ _ _ _ h => by
  obtain ⟨_, _, _, _, _, _, _, _, _, _, _, _, z⟩ := h
  exact z.elim
end
/-- the law's own promise: of the script -/
def spLaw (K : PySem.W.Frag) : Sp := fun vs H Q _ => ∃ (a : Addr) (ns : List Int), vs = [.ref a] ∧ SqL K H a (ns.map V.int) ∧ Only H ∧ ns.length ≤ 63 ∧ (∀ z ∈ ns, Builtin.Int.intBits z ≤ 1048576) ∧ ∀ v H', v = .bl true → Q v H'
theorem bits_log {z : Int} (h : Builtin.Int.intBits z ≤ 1048576) : z.natAbs.log2 < 1048577 := by
  unfold Builtin.Int.intBits at h
  split at h
  · rename_i e
    have e : z.natAbs = 0 := by simpa using e
    rw [e, Nat.log2_zero]; omega
  · omega
/-- bits: each of the script's numbers has at most 2 ^ 20 of them -/
theorem law_impB {P : Program} {w : World} {K : PySem.W.Frag} {mg : Str → Option Value} {base : Heap} {k : Nat} {f : Addr} {fd : FuncData} {ps : List Str} {F : List PV → R PV} (hF : ∀ ns : List Int, ns.length ≤ 63 → (∀ z ∈ ns, z.natAbs.log2 < 1048577) → F [.frz (ns.map PV.int)] = .ok (.bl true))
    (h : FnOk P w K mg base (L2N.CX P w) k f fd ps (spF K mg 1 false F)) : FnOk P w K mg base (L2N.CX P w) k f fd ps (spLaw K) := by
  refine h.imp fun vs H Q E ⟨a, ns, e1, hs, ho, hl, hb, q⟩ => ?_
  subst e1
  refine ⟨[.frz (ns.map PV.int)], fun _ => False, fun _ z => z.elim, .cons (.frz ?_) .nil, rfl, ?_⟩
  · rcases hs with (hs | hs) | hs
    · rcases ho a with z | ⟨o, xs, z⟩
      · rw [z] at hs; cases hs
      · rw [z] at hs; cases hs
    · exact .inl ⟨hs, fun z => z⟩
    · exact .inr fun _ => .inr hs
  · rw [hF ns hl fun z hz => bits_log (hb z hz)]
    intro v H' s r
    cases r
    exact q _ _ rfl
theorem cx_none {P : Program} {w : World} {H : Hp} {s : Shared} {e : Value} {s' : Shared} (h : L2N.CX P w [] H s (fun _ _ _ => False) e s') : False := by
  obtain ⟨_, _, _, _, _, _, _, _, _, _, _, _, z⟩ := h
  exact z
end PL
set_option Elab.async false
set_option linter.all false
set_option maxRecDepth 100000
set_option autoImplicit false
namespace PL
open PySem PySem.Spec L2
open PyProof.Rows hiding St
section
variable {X : Cx} {W : WX} {e a b c : Expr} {pos p : Pos} {f g : Rho → R PV} {es : List Expr} {fA : Rho → R (List PV)}
/-- a constant of the text's top -/
def GlI (mg : Str → Option Value) (x : Str) (i : Int) : Prop := ∃ t, mg x = some (.int i t)
theorem e_glI {x : Str} {i : Int} (h : GlI X.mg x i) (hg : Gl X x) (hd : (x == ("__debug__" : Str)) = false := by decide) : EJ X W .s (.Name x pos) (eC (.int i)) := by
  obtain ⟨t, h⟩ := h
  exact e_const (pe_glob hg h (v := .int i) ⟨t, rfl⟩ hd) fun _ _ _ => .int i
end
def NN (g : Rho → Out) : Prop := ∀ l ρ, g l ≠ .next ρ
theorem nn_e {f : Rho → R PV} {k : PV → Rho → Out} (h : ∀ p l ρ, k p l ≠ .next ρ) : NN (sE f k) := by
  intro l ρ e
  unfold sE at e
  revert e
  cases f l with
  | ok p => exact h p l ρ
  | exc c => exact fun e => nomatch e
  | stuck => exact fun e => nomatch e
theorem nn_ret (f : Rho → R PV) : NN (sRet f) := nn_e fun _ _ _ e => nomatch e
theorem nn_retO (i : Nat) : NN (sRetO i) := by
  intro l ρ e
  unfold sRetO at e
  split at e <;> cases e
theorem nn_seqL {g h : Rho → Out} (a : NN g) : NN (bSeq g h) := by
  intro l ρ e
  unfold bSeq at e
  have n := a l
  revert e n
  cases g l with
  | next ρ1 => exact fun _ n => absurd rfl (n ρ1)
  | _ => exact fun e => nomatch e
theorem nn_seqR {g h : Rho → Out} (a : NN h) : NN (bSeq g h) := by
  intro l ρ e
  unfold bSeq at e
  revert e
  cases g l with
  | next ρ1 => exact fun e => a ρ1 ρ e
  | _ => exact fun e => nomatch e
section
variable {K : PySem.W.Frag} {h : Heap} {mg : Str → Option Value}
theorem defE_mk (X : K.In h) (G : h.Ns mainGlobals mg) {x : Str} {st : Stmt} {ps : List Str} {f : Addr} {od an : Option Addr} {sl : Array (Option Value)} {oc kV dc pm cd ct : Value}
    (a : PySem.W.nsIn K mainGlobals x = some (some (.ref f))) (l : K.lookup f = some ⟨oc, od, .func (PySem.W.fnOf x x (defArgs st) (defBody st) (defScope st) .none kV dc pm an cd ct), sl⟩) (c : PySem.W.codeIn K cd x = true) (k : PySem.W.keepIn K (.ref f) = true)
    (hb : ∀ (kV doc pm : Value) (an : Option Addr) (cdv ct : Value) (us : List Value), us.length = ps.length → bindArgs (PySem.W.fnOf x x (defArgs st) (defBody st) (defScope st) .none kV doc pm an cdv ct) ⟨us, []⟩ = pure (ps.zip us)) : DefE K mg x st ps :=
  ⟨f, _, fun_mk l c k, PySem.W.mg_of X G a, (fun_mk l c k).binds hb⟩
theorem glI_mk (X : K.In h) (G : h.Ns mainGlobals mg) {x : Str} {i : Int} {t : Tok} (a : PySem.W.nsIn K mainGlobals x = some (some (.int i t))) : GlI mg x i := ⟨t, PySem.W.mg_of X G a⟩
theorem excE_mk (X : K.In h) (G : h.Ns mainGlobals mg) {x : Str} {C : Addr} (a : PySem.W.nsIn K mainGlobals x = some (some (.ref C))) (ex : PySem.W.excIn K C [.type "ValueError", .type "Exception", .type "BaseException", .type "object"] "ValueError.__new__" = true)
    (kp : PySem.W.keepIn K (.ref C) = true) (sb : PySem.W.subIn K (.ref C) (.type "BaseException") = some true) (ty : PySem.W.typeIn K (.ref C) = some (.type "type")) : ∃ C, ExcT K mg x C := ⟨C, PySem.W.mg_of X G a, ex, kp, sb, ty⟩
end
end PL
set_option Elab.async false
set_option linter.all false
set_option maxRecDepth 100000
set_option autoImplicit false
namespace PL
open PySem PySem.Spec L2
open PyProof.Rows hiding St
def isX (i : Nat) (a : Addr) (b : Bool) : Rho → R PV := fun ρ => match ρ[i]? with
  | some (.ex a') => if a' = a then .ok (.bl b) else .stuck
  | _ => .stuck
/-- the call of such a def -/
def hotC (i : Nat) (a : Addr) (F : Addr → R PV) : Rho → R PV := fun ρ => match ρ[i]? with
  | some (.ex a') => if a' = a then (match F a with
    | .ok p => .ok p
    | _ => .stuck) else .stuck
  | _ => .stuck
/-- behind the suite -/
def behindX (i : Nat) : Out → Out
  | .next ρ => .next (ρ.set i .un)
  | .brk ρ => .brk (ρ.set i .un)
  | .cont ρ => .cont (ρ.set i .un)
  | .ret p => .ret p
  | _ => .stuck
/-- the context of the suite -/
def suiteC (X : Cx) (a : Addr) (pn : List (Addr × Obj)) : Cx := X.suite a pn
theorem takesN {X : Cx} : L2N.Takes X (fun _ _ _ _ => False) := fun _ _ x => by
  obtain ⟨_, _, _, _, _, _, _, _, _, _, _, _, _, _, _, _, z⟩ := x
  exact z.elim
theorem fa_nil {α : Type} {P : α → Prop} : ∀ c ∈ ([] : List α), P c := fun _ h => nomatch h
theorem fa_cons {α : Type} {P : α → Prop} {c : α} {l : List α} (h : P c) (r : ∀ c ∈ l, P c) : ∀ d ∈ c :: l, P d := fun d hd => by
  rcases List.mem_cons.mp hd with e | hd
  · rw [e]; exact h
  · exact r d hd
section
variable {K : PySem.W.Frag} {h : Heap} {mg : Str → Option Value} {c d : Str} {U V' : Addr}
def KO (K : PySem.W.Frag) (mg : Str → Option Value) (c d : Str) : Prop := ∀ C D, mg c = some (.ref C) → mg d = some (.ref D) → PySem.W.exmOne K (.ref C) (.ref D) = some true
theorem ko_mk (X : K.In h) (G : h.Ns mainGlobals mg) (a1 : PySem.W.nsIn K mainGlobals c = some (some (.ref U))) (a2 : PySem.W.nsIn K mainGlobals d = some (some (.ref V'))) (lb : PySem.W.subIn K (.ref V') (.type "BaseException") = some true) (ld : PySem.W.hasDictIn K V' = true) (lt : PySem.W.typeIn K (.ref V') = some (.type "type")) (s : PySem.W.subIn K (.ref U) (.ref V') = some true) : KO K mg c d := fun C D h1 h2 => by
  cases h1.symm.trans (PySem.W.mg_of X G a1)
  cases h2.symm.trans (PySem.W.mg_of X G a2)
  exact PySem.W.exm_ref lb ld lt s
end
end PL
set_option Elab.async false
set_option linter.all false
set_option maxRecDepth 100000
set_option autoImplicit false
namespace PL
open PySem PySem.Spec L2
open PyProof.Rows hiding St
def DefED (K : PySem.W.Frag) (mg : Str → Option Value) (x : Str) (st : Stmt) (ps : List Str) : Prop :=
  ∃ f fd ds, mg x = some (.ref f) ∧ FunD K x x (defArgs st) (defBody st) (defScope st) [.int 1] [] f fd ∧ L2.Binds K fd ps [] ∧ Vals [V.int 1] ds ∧ L2.Binds K fd ps ds
section
variable {P : Program} {w : World} {K : PySem.W.Frag} {mg : Str → Option Value} {base : Heap}
theorem defED_mk {h : Heap} (X : K.In h) (G : h.Ns mainGlobals mg) {x p q : Str} {st : Stmt} {f T : Addr} {od an td : Option Addr} {sl sl2 : Array (Option Value)} {oc kV dc pm cd ct tc : Value} {m : Nat} {t : Tok}
    (a : PySem.W.nsIn K mainGlobals x = some (some (.ref f))) (l : K.lookup f = some ⟨oc, od, .func (PySem.W.fnOf x x (defArgs st) (defBody st) (defScope st) (.ref T) kV dc pm an cd ct), sl⟩) (c : PySem.W.codeIn K cd x = true) (k : PySem.W.keepIn K (.ref f) = true)
    (lt : K.lookup T = some ⟨tc, td, .seq #[.int 1 t] m, sl2⟩)
    (h2 : ∀ (T : Addr) (kV doc pm : Value) (an : Option Addr) (cdv ct : Value) (us its : List Value), us.length = 2 → its.length = 1 → ∃ k, bindArgs (PySem.W.fnOf x x (defArgs st) (defBody st) (defScope st) (.ref T) kV doc pm an cdv ct) ⟨us, []⟩ = seqItems? (.ref T) >>= k ∧ k (some its.toArray) = pure ([p, q].zip (us ++ its.drop 1)))
    (h1 : ∀ (T : Addr) (kV doc pm : Value) (an : Option Addr) (cdv ct : Value) (us its : List Value), us.length = 1 → its.length = 1 → ∃ k, bindArgs (PySem.W.fnOf x x (defArgs st) (defBody st) (defScope st) (.ref T) kV doc pm an cdv ct) ⟨us, []⟩ = seqItems? (.ref T) >>= k ∧ k (some its.toArray) = pure ([p, q].zip (us ++ its.drop 0))) : DefED K mg x st [p, q] := by
  have F : FunD K x x (defArgs st) (defBody st) (defScope st) [.int 1] [] f (PySem.W.fnOf x x (defArgs st) (defBody st) (defScope st) (.ref T) kV dc pm an cd ct) :=
    ⟨⟨oc, od, _, kV, dc, pm, an, cd, ct, sl, rfl, l, c, .inr ⟨(fun z => nomatch z), T, _, [.int 1 t], m, rfl, lt, rfl, .cons ⟨t, rfl⟩ .nil⟩, .inl rfl⟩, k⟩
  obtain ⟨ds, v1, b1⟩ := F.binds1 1 0 (fun z => nomatch z) rfl h1
  obtain ⟨ds0, v0, b0⟩ := F.binds1 2 1 (fun z => nomatch z) rfl h2
  cases (show Vals [] ds0 from v0)
  exact ⟨f, _, ds, PySem.W.mg_of X G a, F, b0, v1, b1⟩
/-- called with the default -/
def OkD1 (P : Program) (w : World) (K : PySem.W.Frag) (mg : Str → Option Value) (base : Heap) (x : Str) (ps : List Str) (k n : Nat) (nw : Bool) (F : List PV → R PV) : Prop :=
  ∃ f fd ds, mg x = some (.ref f) ∧ PySem.W.keepIn K (.ref f) = true ∧ Vals [V.int 1] ds ∧ L2.Binds K fd ps ds ∧ FnOk P w K mg base (L2N.CX P w) k f fd ps (spF K mg n nw F)
theorem fn_mkD {x qual : Str} {st : Stmt} {f : Addr} {fd : FuncData} {dvs : List V} {N ps : List Str} {k n : Nat} {nw : Bool} {g : Rho → Out} (F : FunD K x qual (defArgs st) (defBody st) (defScope st) dvs [] f fd) (S : FnScope N ps (defScope st)) (hn : n = ps.length) (hnw : nw = true → ∀ l, ∀ ρ, g l ≠ .next ρ)
    (hbody : ∀ (cdv : Value) (A : Around) (outer : List PySem.Env) (s : Shared) (H : Hp) (E : XK), Room k (A.deeper (envOfC qual (defScope st) s.heap.objs.size f cdv)) →
      BJ (cxOf (L2N.CX P w) P w K mg base N qual (defScope st) f cdv A outer s H E) (fun cls d _ H => E cls d H) nw (defBody st) g) :
    FnOk P w K mg base (L2N.CX P w) (k + 1) f fd ps (spF K mg n nw (runF N.length g)) := by
  refine F.ok S (fun vs H Q E h => ?_) (fun cdv A outer s H vs Q E hr h => ?_)
  · obtain ⟨_, _, _, _, e, _⟩ := h
    rw [e, hn]
  · obtain ⟨qs, O, al, r, e, h⟩ := h
    refine ⟨_, hbody cdv A outer s H E hr, H, O, _, start_st al r, ?_⟩
    have h' : (match runF N.length g qs with
      | .ok p => ∀ v H', Same H H' → RepR K O nw H H' v p → Q v H'
      | .exc c => ∀ C H', Same H H' → mg c = some (.ref C) → E (.ref C) none H'
      | .stuck => False) := h
    unfold runF at h'
    revert h'
    cases hg : g (qs.map Slot.val ++ List.replicate (N.length - qs.length) Slot.un) with
    | ret p => exact fun h v H' s r => h v H' s r
    | next ρ' =>
      intro h σ' H' S' _
      cases nw with
      | false => exact h _ _ S'.same .non
      | true => exact absurd hg (hnw rfl _ _)
    | exc c ρ' => exact fun h C σ' H' e S' _ => h C H' S'.same e
    | brk ρ' => exact False.elim
    | cont ρ' => exact False.elim
    | stuck => exact False.elim
theorem def_okD {x : Str} {st : Stmt} {N ps : List Str} {k n : Nat} {nw : Bool} {g : Rho → Out} (T : DefED K mg x st ps) (S : FnScope N ps (defScope st)) (hn : n = ps.length) (hnw : nw = true → ∀ l, ∀ ρ, g l ≠ .next ρ)
    (hbody : ∀ (f : Addr) (cdv : Value) (A : Around) (outer : List PySem.Env) (s : Shared) (H : Hp) (E : XK), Room k (A.deeper (envOfC x (defScope st) s.heap.objs.size f cdv)) →
      BJ (cxOf (L2N.CX P w) P w K mg base N x (defScope st) f cdv A outer s H E) (fun cls d _ H => E cls d H) nw (defBody st) g) :
    Okd P w K mg base x ps (k + 1) n nw (runF N.length g) ∧ OkD1 P w K mg base x ps (k + 1) n nw (runF N.length g) := by
  obtain ⟨f, fd, ds, hm, F, b0, v1, b1⟩ := T
  have q := fn_mkD F S hn hnw (hbody f)
  exact ⟨⟨f, fd, hm, F.kp, b0, q⟩, f, fd, ds, hm, F.kp, v1, b1, q⟩
end
def sTryO (x : Str) (body su : Rho → Out) : Rho → Out := fun ρ => match body ρ with
  | .exc c ρ' => if c = x then (match su ρ' with
    | .exc _ _ => .stuck
    | o => o) else .stuck
  | o => o
section
variable {X : Cx} {W : WX} {nw : Bool} {x : Str} {cv : Value} {body suite : List Stmt} {b₀ : Stmt} {np pos pos' : Pos} {g su : Rho → Out}
theorem takes_N (tk : L2.Takes X W) : L2N.Takes X W := fun u s' ⟨a, B, sI, pins, σ, H, cls, d, e, I, nb, up, sky, na, os, ag, w⟩ => tk u s' ⟨a, B, sI, pins, σ, H, cls, d, e, I, nb, up, by
  rcases sky with ⟨h1, h2, h3, oe, vs, h4, h5, h6⟩ | fl | hh
  · exact .inl ⟨h1, h2, h3, oe, vs, h4, h5.zc, h6⟩
  · exact .inr (.inl ⟨fl.1, fl.2.1, fl.2.2.1, L2H.tracedZ_imp (fun _ z => z.zc) fl.2.2.2⟩)
  · exact .inr (.inr ⟨hh.1, hh.2.1, hh.2.2.1, L2H.tracedZ_imp (fun _ z => z.zc) hh.2.2.2⟩), na, os, ag, w⟩
theorem s_tryO (hs : X.stack = X.env :: X.outer) (hf : X.env.frame = some X.env.locals) (hc : Names X x cv) (hex : ∀ C, X.mg x = some (.ref C) → PySem.W.exmOne X.K (.ref C) cv = some true)
    (hb : ∀ (W' : WX) (pn : List (Addr × Obj)) (xe : Value → Shared → Prop), L2N.Takes (X.tr pn xe) W' → PassesOwn (model X.prog X.w) X.A X.env xe → BJ (X.tr pn xe) W' nw body g)
    (hsu : ∀ (a : Addr) (pn : List (Addr × Obj)), BJ (suiteC X a pn) (fun _ _ _ _ => False) nw (b₀ :: suite) su) :
    SJ X W nw (.Try body [.ExceptHandler (some (.Name x np)) none (b₀ :: suite) pos'] [] [] pos) (sTryO x g su) := by
  refine ps_imp (ps_try_only (tb := fun W' => tS X.K X.mg W' nw g) (ts := fun a cls d => tS X.K X.mg (fun _ _ _ _ => False) nw su) (Wout := fun _ _ _ _ => False) hs hf hc (fun _ _ y => by
    obtain ⟨_, _, _, _, _, _, _, _, _, _, _, _, _, _, _, _, z⟩ := y
    exact z.elim) (fun W' pn xe tk hp => hb W' pn xe (takes_N tk) hp) (fun a oe cls d pn hz hv => hsu a _)) fun D σ H ⟨H0, O0, ρ, S, G⟩ => ⟨H0, O0, ρ, S, ?_⟩
  unfold sTryO at G
  revert G
  cases g ρ with
  | next ρ' => exact fun G => G
  | brk ρ' => exact fun G => G
  | cont ρ' => exact fun G => G
  | ret p => exact fun G => G
  | stuck => exact fun G => G
  | exc c ρ' =>
    dsimp only
    split
    · rename_i hcs
      subst hcs
      intro G C σ' H' hm S' k'
      refine ⟨true, hex C hm, fun _ a na => ⟨H0, O0, ρ', S', ?_⟩, fun z => nomatch z⟩
      revert G
      cases su ρ' with
      | next ρ2 => exact fun G σ2 H2 S3 k3 => G _ _ S3 (k'.trans k3)
      | brk ρ2 => exact fun G σ2 H2 S3 k3 => G _ _ S3 (k'.trans k3)
      | cont ρ2 => exact fun G σ2 H2 S3 k3 => G _ _ S3 (k'.trans k3)
      | ret p => exact fun G => G
      | exc c ρ2 => exact fun G => G.elim
      | stuck => exact fun G => G.elim
    · exact fun G => G.elim
end
end PL
set_option Elab.async false
set_option linter.all false
set_option maxRecDepth 100000
set_option autoImplicit false
namespace PL
open PySem PySem.Spec L2
open PyProof.Rows hiding St
end PL
set_option Elab.async false
set_option linter.all false
set_option maxRecDepth 100000
set_option autoImplicit false
namespace PL
open PySem PySem.Spec L2
open PyProof.Rows hiding St
end PL
set_option Elab.async false
set_option linter.all false
set_option maxRecDepth 100000
set_option autoImplicit false
namespace PL
open PySem PySem.Spec L2
open PyProof.Rows hiding St
/-- an equation that is not taken for a computation -/
theorem nr {α : Sort _} {a b : α} (h : a = b) : a = b := h
section
variable {p q x y : PV} {ρ : Rho} {f g h : Rho → R PV} {i j : Nat} {a b c : Int} {k l : Bool} {ps qs : List PV} {s t : Slot}
@[simp] theorem eC_eq : eC p ρ = .ok p := nr rfl
@[simp] theorem eV0 : eV 0 (.val p :: ρ) = .ok p := nr rfl
@[simp] theorem eVs : eV (i + 1) (s :: ρ) = eV i ρ := by simp [eV]
@[simp] theorem eVo0 : eVo 0 (.val p :: ρ) = .ok p := nr rfl
@[simp] theorem eVo0' : eVo 0 (.own ps :: ρ) = .ok (.lst ps) := nr rfl
@[simp] theorem eVos : eVo (i + 1) (s :: ρ) = eVo i ρ := by simp [eVo]
@[simp] theorem bind1 {α β : Type} (a : α) (k : α → R β) : (R.ok a).bind k = k a := nr rfl
@[simp] theorem bind2 {α β : Type} (c : Str) (k : α → R β) : (R.exc c : R α).bind k = .exc c := nr rfl
@[simp] theorem bind3 {α β : Type} (k : α → R β) : (R.stuck : R α).bind k = .stuck := nr rfl
@[simp] theorem e2_eq {w : PV → PV → R PV} : e2 w f g ρ = (f ρ).bind fun x => (g ρ).bind fun y => w x y := nr rfl
@[simp] theorem e1_eq {w : PV → R PV} : e1 w f ρ = (f ρ).bind w := nr rfl
@[simp] theorem eD_eq {w : List PV → R PV} {fA : Rho → R (List PV)} : eD w fA ρ = (fA ρ).bind w := nr rfl
@[simp] theorem aNil_eq : aNil ρ = .ok [] := nr rfl
@[simp] theorem aCons_eq {fA : Rho → R (List PV)} : aCons f fA ρ = (f ρ).bind fun p => (fA ρ).bind fun ps => .ok (p :: ps) := nr rfl
@[simp] theorem tB1_eq : tB1 f ρ = (f ρ).bind asB := nr rfl
@[simp] theorem asB_eq : asB (.bl k) = .ok k := nr rfl
@[simp] theorem asI_eq : asI (.int a) = .ok a := nr rfl
@[simp] theorem tNt_eq {u : Rho → R Bool} : tNt u ρ = (u ρ).bind fun b => .ok (!b) := nr rfl
@[simp] theorem tAn_eq {u v : Rho → R Bool} : tAn u v ρ = (u ρ).bind fun b => if b = true then v ρ else .ok false := nr rfl
@[simp] theorem tOr_eq {u v : Rho → R Bool} : tOr' u v ρ = (u ρ).bind fun b => if b = true then .ok true else v ρ := nr rfl
@[simp] theorem eAn_eq : eAn f g ρ = (f ρ).bind fun p => (asB p).bind fun b => if b = true then g ρ else .ok (.bl false) := nr rfl
@[simp] theorem eOr_eq : eOr f g ρ = (f ρ).bind fun p => (asB p).bind fun b => if b = true then .ok (.bl true) else g ρ := nr rfl
@[simp] theorem notP_eq : notP (.bl k) = .ok (.bl (!k)) := nr rfl
@[simp] theorem negP_eq : negP (.int a) = .ok (.int (-a)) := nr rfl
@[simp] theorem eIf_eq {u : Rho → R Bool} : eIf u f g ρ = (u ρ).bind fun b => if b = true then f ρ else g ρ := nr rfl
@[simp] theorem eChain_eq {w1 w2 : PV → PV → R PV} : eChain w1 w2 f g h ρ = (f ρ).bind fun x => (g ρ).bind fun y => (w1 x y).bind fun z => (asB z).bind fun k => if k = true then (h ρ).bind fun w => w2 y w else .ok (.bl false) := nr rfl
@[simp] theorem addP_ii : addP (.int a) (.int b) = .ok (.int (a + b)) := nr rfl
@[simp] theorem iadd_ii : intP (fun _ _ => true) (fun a b => PV.int (a + b)) (.int a) (.int b) = .ok (.int (a + b)) := nr rfl
@[simp] theorem subP_ii : subP (.int a) (.int b) = .ok (.int (a - b)) := nr rfl
@[simp] theorem ltP_ii : ltP (.int a) (.int b) = .ok (.bl (decide (a < b))) := nr rfl
@[simp] theorem leP_ii : leP (.int a) (.int b) = .ok (.bl (decide (a ≤ b))) := nr rfl
@[simp] theorem gtP_ii : gtP (.int a) (.int b) = .ok (.bl (decide (b < a))) := nr rfl
@[simp] theorem geP_ii : geP (.int a) (.int b) = .ok (.bl (decide (b ≤ a))) := nr rfl
theorem mulP_ii (h : okMul a b = true) : mulP (.int a) (.int b) = .ok (.int (a * b)) := by
  show (if okMul a b = true then _ else _) = _
  rw [if_pos h]
theorem modP_ii (h : b ≠ 0) : modP (.int a) (.int b) = .ok (.int (a.fmod b)) := by
  show (if decide (b ≠ 0) = true then _ else _) = _
  rw [if_pos (decide_eq_true h)]
theorem modP_pos (h : 0 < b) : modP (.int a) (.int b) = .ok (.int (a % b)) := by
  rw [modP_ii (by omega), Int.fmod_eq_emod_of_nonneg a (by omega)]
theorem log2_lt {n m : Nat} (h : n < 2 ^ m) (hm : 0 < m) : n.log2 < m := by
  by_cases h0 : n = 0
  · subst h0; simpa using hm
  · exact (Nat.log2_lt h0).mpr h
theorem fdivP_ii (h : b ≠ 0) (h2 : b.natAbs < 2 ^ 9000) : fdivP (.int a) (.int b) = .ok (.int (a.fdiv b)) := by
  show (if okDiv a b = true then _ else _) = _
  have h3 : b.natAbs.log2 < 9000 := log2_lt h2 (by omega)
  rw [if_pos]
  show (decide (b ≠ 0) && decide (b.natAbs.log2 < 9000)) = true
  rw [decide_eq_true h, decide_eq_true h3] <;> rfl
theorem fdivP_pos (h : 0 < b) (h2 : b < 2 ^ 9000) : fdivP (.int a) (.int b) = .ok (.int (a / b)) := by
  rw [fdivP_ii (by omega) (by omega), Int.fdiv_eq_ediv_of_nonneg a (by omega)]
theorem divmodP_pos (h : 0 < b) (h2 : b < 2 ^ 9000) : divmodP [.int a, .int b] = .ok (.tup [.int (a / b), .int (a % b)]) := by
  unfold divmodP
  dsimp only
  have h3 : b.natAbs.log2 < 9000 := log2_lt (by omega) (by omega)
  rw [if_pos ⟨h, h3⟩]
theorem okMul_of {m n : Nat} (ha : a.natAbs < 2 ^ m) (hb : b.natAbs < 2 ^ n) (h : m + n ≤ 100000000) (hm : 0 < m) (hn : 0 < n) : okMul a b = true := by
  have h1 := log2_lt ha hm
  have h2 := log2_lt hb hn
  exact decide_eq_true (by omega)
theorem powP_ii (h0 : 0 ≤ b) (h1 : b ≤ 1000000) (h2 : a.natAbs < 2 ^ 64) : powP (.int a) (.int b) = .ok (.int (a ^ b.toNat)) := by
  show (if okPow a b = true then _ else _) = _
  rw [if_pos]
  show (decide (0 ≤ b) && decide (b ≤ 1000000) && decide (a.natAbs < 2 ^ 64)) = true
  rw [decide_eq_true h0, decide_eq_true h1, decide_eq_true h2] <;> rfl
/-- what may be compared -/
@[simp] theorem okD_int {n : Nat} : okD n (.int a) = true := by cases n <;> rfl
@[simp] theorem okD_bl {n : Nat} : okD n (.bl k) = true := by cases n <;> rfl
@[simp] theorem okD_non {n : Nat} : okD n .non = true := by cases n <;> rfl
@[simp] theorem okD_lst {n : Nat} : okD (n + 1) (.lst ps) = ps.all (okD n) := nr rfl
@[simp] theorem okD_tup {n : Nat} : okD (n + 1) (.tup ps) = ps.all (okD n) := nr rfl
@[simp] theorem okD_frz {n : Nat} : okD (n + 1) (.frz ps) = ps.all (okD n) := nr rfl
@[simp] theorem okD_str {n : Nat} {z : Str} : okD n (.str z) = PyData.strOk z := by cases n <;> rfl
@[simp] theorem eqV_ii : eqV' (.int a) (.int b) = (a == b) := by simp only [eqV']
@[simp] theorem eqV_bb : eqV' (.bl k) (.bl l) = (k == l) := by simp only [eqV']
@[simp] theorem eqV_ss {u v : Str} : eqV' (.str u) (.str v) = (u == v) := by simp only [eqV']
@[simp] theorem eqV_ll : eqV' (.lst ps) (.lst qs) = eqVs ps qs := by simp only [eqV']
@[simp] theorem eqV_tt : eqV' (.tup ps) (.tup qs) = eqVs ps qs := by simp only [eqV']
@[simp] theorem eqVs_nn : eqVs [] [] = true := by simp only [eqVs]
@[simp] theorem eqVs_cc : eqVs (p :: ps) (q :: qs) = (eqV' p q && eqVs ps qs) := by simp only [eqVs]
@[simp] theorem eqVs_cn : eqVs (p :: ps) [] = false := by simp only [eqVs]
@[simp] theorem eqVs_nc : eqVs [] (q :: qs) = false := by simp only [eqVs]
theorem eqP_ok (h : okD 30 p = true) (h2 : okD 30 q = true) : eqP p q = .ok (.bl (eqV' p q)) := by
  unfold eqP; rw [h, h2, Bool.and_self, if_pos rfl]
theorem neP_ok (h : okD 30 p = true) (h2 : okD 30 q = true) : neP p q = .ok (.bl (!eqV' p q)) := by
  unfold neP; rw [h, h2, Bool.and_self, if_pos rfl]
@[simp] theorem eqP_ii : eqP (.int a) (.int b) = .ok (.bl (a == b)) := by rw [eqP_ok okD_int okD_int, eqV_ii]
@[simp] theorem neP_ii : neP (.int a) (.int b) = .ok (.bl (!(a == b))) := by rw [neP_ok okD_int okD_int, eqV_ii]
@[simp] theorem eqP_bb : eqP (.bl k) (.bl l) = .ok (.bl (k == l)) := by rw [eqP_ok okD_bl okD_bl, eqV_bb]
@[simp] theorem neP_bb : neP (.bl k) (.bl l) = .ok (.bl (!(k == l))) := by rw [neP_ok okD_bl okD_bl, eqV_bb]
theorem eqVs_ints : ∀ ns ms : List Int, eqVs (ns.map PV.int) (ms.map PV.int) = (ns == ms)
  | [], [] => by simp
  | [], _ :: _ => by simp
  | _ :: _, [] => by simp
  | n :: ns, m :: ms => by simp only [List.map_cons, eqVs_cc, eqV_ii, eqVs_ints ns ms]; rfl
/-- kinds -/
@[simp] theorem isi_ii : isiP "int" (.int a) = .ok (.bl true) := by have e : kitB "int" "int" = some true := by decide +kernel
                                                                    simp only [isiP, kitP, tyN, e]
@[simp] theorem isi_ib : isiP "int" (.bl k) = .ok (.bl true) := by have e : kitB "bool" "int" = some true := by decide +kernel
                                                                   simp only [isiP, kitP, tyN, e]
@[simp] theorem isi_in : isiP "int" .non = .ok (.bl false) := by have e : kitB "NoneType" "int" = some false := by decide +kernel
                                                                 simp only [isiP, kitP, tyN, e]
@[simp] theorem isi_is {z : Str} : isiP "int" (.str z) = .ok (.bl false) := by have e : kitB "str" "int" = some false := by decide +kernel
                                                                               simp only [isiP, kitP, tyN, e]
@[simp] theorem isi_it : isiP "int" (.tup ps) = .ok (.bl false) := by have e : kitB "tuple" "int" = some false := by decide +kernel
                                                                      simp only [isiP, kitP, tyN, e]
@[simp] theorem isi_il : isiP "int" (.lst ps) = .ok (.bl false) := by have e : kitB "list" "int" = some false := by decide +kernel
                                                                      simp only [isiP, kitP, tyN, e]
@[simp] theorem isi_if : isiP "int" (.frz ps) = .ok (.bl false) := by have e : kitB "list" "int" = some false := by decide +kernel
                                                                      simp only [isiP, kitP, tyN, e]
@[simp] theorem isi_id : isiP "int" .dct = .ok (.bl false) := by have e : kitB "dict" "int" = some false := by decide +kernel
                                                                 simp only [isiP, kitP, tyN, e]
@[simp] theorem isi_bi : isiP "bool" (.int a) = .ok (.bl false) := by have e : kitB "int" "bool" = some false := by decide +kernel
                                                                      simp only [isiP, kitP, tyN, e]
@[simp] theorem isi_bb : isiP "bool" (.bl k) = .ok (.bl true) := by have e : kitB "bool" "bool" = some true := by decide +kernel
                                                                    simp only [isiP, kitP, tyN, e]
@[simp] theorem isi_idt {l : List ((Int × Int) × Int)} : isiP "int" (.dt l) = .ok (.bl false) := by
  have e : kitB "dict" "int" = some false := by decide +kernel
  simp only [isiP, kitP, tyN, e]
@[simp] theorem isi_iobj {C : Addr} {m : List Str} {fs : List PV} : isiP "int" (.obj C m fs) = .ok (.bl false) := by simp [isiP, kitP]
def isT : PV → Bool
  | .tup _ => true
  | _ => false
def isL : PV → Bool
  | .lst _ | .frz _ => true
  | _ => false
theorem isi_tuple : isiP "tuple" p = .ok (.bl (isT p)) := by
  have e1 : kitB "NoneType" "tuple" = some false := by decide +kernel
  have e2 : kitB "bool" "tuple" = some false := by decide +kernel
  have e3 : kitB "int" "tuple" = some false := by decide +kernel
  have e4 : kitB "str" "tuple" = some false := by decide +kernel
  have e5 : kitB "tuple" "tuple" = some true := by decide +kernel
  have e6 : kitB "list" "tuple" = some false := by decide +kernel
  have e7 : kitB "dict" "tuple" = some false := by decide +kernel
  cases p <;> simp [isiP, kitP, tyN, e1, e2, e3, e4, e5, e6, e7, isT]
def isB : PV → Bool
  | .bl _ => true
  | _ => false
theorem isi_bool : isiP "bool" p = .ok (.bl (isB p)) := by
  have e1 : kitB "NoneType" "bool" = some false := by decide +kernel
  have e2 : kitB "bool" "bool" = some true := by decide +kernel
  have e3 : kitB "int" "bool" = some false := by decide +kernel
  have e4 : kitB "str" "bool" = some false := by decide +kernel
  have e5 : kitB "tuple" "bool" = some false := by decide +kernel
  have e6 : kitB "list" "bool" = some false := by decide +kernel
  have e7 : kitB "dict" "bool" = some false := by decide +kernel
  cases p <;> simp [isiP, kitP, tyN, e1, e2, e3, e4, e5, e6, e7, isB]
/-- whole numbers -/
def isW : PV → Bool
  | .int _ => true
  | _ => false
/-- the body of is_whole, of the laws' own -/
@[simp] theorem isW_int (a : Int) : isW (.int a) = true := rfl
theorem whole_eq : (isiP "int" p).bind (fun x => (asB x).bind fun b => if b = true then (isiP "bool" p).bind notP else .ok (.bl false)) = .ok (.bl (isW p)) := by
  rw [isi_bool]
  cases p <;> simp [isW, isB]
/-- statements -/
@[simp] theorem then_next {k : Rho → Out} : (Out.next ρ).then k = k ρ := nr rfl
@[simp] theorem then_ret {k : Rho → Out} : (Out.ret p).then k = .ret p := nr rfl
@[simp] theorem then_exc {k : Rho → Out} {z : Str} : (Out.exc z ρ).then k = .exc z ρ := nr rfl
@[simp] theorem then_stuck {k : Rho → Out} : Out.stuck.then k = .stuck := nr rfl
@[simp] theorem then_brk {k : Rho → Out} : (Out.brk ρ).then k = .brk ρ := nr rfl
@[simp] theorem then_cont {k : Rho → Out} : (Out.cont ρ).then k = .cont ρ := nr rfl
@[simp] theorem bNil_eq : bNil ρ = .next ρ := nr rfl
@[simp] theorem bSeq_eq {u v : Rho → Out} : bSeq u v ρ = (u ρ).then v := nr rfl
/-- an expression's end within a statement -/
def R.st (r : R PV) (ρ : Rho) (k : PV → Out) : Out := match r with
  | .ok p => k p
  | .exc c => .exc c ρ
  | .stuck => .stuck
@[simp] theorem st_ok {k : PV → Out} : (R.ok p).st ρ k = k p := nr rfl
@[simp] theorem st_exc {k : PV → Out} {z : Str} : (R.exc z).st ρ k = .exc z ρ := nr rfl
@[simp] theorem st_stuck {k : PV → Out} : (R.stuck : R PV).st ρ k = .stuck := nr rfl
@[simp] theorem sE_eq {k : PV → Rho → Out} : sE f k ρ = (f ρ).st ρ fun p => k p ρ := nr rfl
@[simp] theorem sSet_eq : sSet i f ρ = (f ρ).st ρ fun p => .next (ρ.set i (.val p)) := nr rfl
@[simp] theorem sRet_eq : sRet f ρ = (f ρ).st ρ fun p => .ret p := nr rfl
@[simp] theorem sDrop_eq : sDrop f ρ = (f ρ).st ρ fun _ => .next ρ := nr rfl
@[simp] theorem sRaise_eq {z : Str} : sRaise z ρ = .exc z ρ := nr rfl
@[simp] theorem sPass_eq : sPass ρ = .next ρ := nr rfl
@[simp] theorem sTo_eq {w : PV → Rho → Option Rho} : sTo w f ρ = (f ρ).st ρ fun p => match w p ρ with | some ρ' => .next ρ' | none => .stuck := nr rfl
def R.stB (r : R Bool) (ρ : Rho) (k : Bool → Out) : Out := match r with
  | .ok p => k p
  | .exc c => .exc c ρ
  | .stuck => .stuck
@[simp] theorem stB_ok {k : Bool → Out} {b : Bool} : (R.ok b).stB ρ k = k b := nr rfl
@[simp] theorem stB_exc {k : Bool → Out} {z : Str} : (R.exc z).stB ρ k = .exc z ρ := nr rfl
@[simp] theorem stB_stuck {k : Bool → Out} : (R.stuck : R Bool).stB ρ k = .stuck := nr rfl
@[simp] theorem sIf_eq {u : Rho → R Bool} {v w : Rho → Out} : sIf u v w ρ = (u ρ).stB ρ fun b => if b = true then v ρ else w ρ := by
  unfold sIf R.stB
  cases u ρ with
  | ok b => cases b <;> simp
  | exc c => rfl
  | stuck => rfl
def Out.res (o : Out) : R PV := match o with
  | .ret p => .ok p
  | .next _ => .ok .non
  | .exc c _ => .exc c
  | _ => .stuck
@[simp] theorem res_ret : (Out.ret p).res = .ok p := nr rfl
@[simp] theorem res_next : (Out.next ρ).res = .ok .non := nr rfl
@[simp] theorem res_exc {z : Str} : (Out.exc z ρ).res = .exc z := nr rfl
theorem runF_eq {n : Nat} {u : Rho → Out} : runF n u ps = (u (ps.map Slot.val ++ List.replicate (n - ps.length) Slot.un)).res := rfl
@[simp] theorem gN_eq : gN i p ρ = some (ρ.set i (.val p)) := nr rfl
@[simp] theorem gT_eql {w : List PV → Rho → Option Rho} : gT w (.lst ps) ρ = w ps ρ := nr rfl
@[simp] theorem gT_eq {w : List PV → Rho → Option Rho} : gT w (.tup ps) ρ = w ps ρ := nr rfl
@[simp] theorem gsNil_eq : gsNil [] ρ = some ρ := nr rfl
@[simp] theorem gsCons_eq {u : PV → Rho → Option Rho} {w : List PV → Rho → Option Rho} : gsCons u w (p :: ps) ρ = (u p ρ).bind (w ps) := nr rfl
@[simp] theorem sAug0 {w : PV → PV → R PV} : sAug i w f ρ = (match ρ[i]? with
  | some (.val x) => ((f ρ).bind fun y => w x y).st ρ fun z => .next (ρ.set i (.val z))
  | _ => .stuck) := nr rfl
@[simp] theorem lenP_l : lenP [.lst ps] = .ok (.int ps.length) := nr rfl
@[simp] theorem lenP_t : lenP [.tup ps] = .ok (.int ps.length) := nr rfl
@[simp] theorem lenP_f : lenP [.frz ps] = .ok (.int ps.length) := nr rfl
theorem size_ok {n : Nat} (h : n ≤ 1000000) : n ≤ sizeLine := by rw [sizeLine_eq]; omega
theorem lstP_ok (h : ps.length ≤ 1000000) : lstP ps = .ok (.lst ps) := by unfold lstP; rw [if_pos (size_ok h)]
theorem tupP_ok (h : ps.length ≤ 1000000) : tupP ps = .ok (.tup ps) := by unfold tupP; rw [if_pos (size_ok h)]
@[simp] theorem lstP0 : lstP [] = .ok (.lst []) := lstP_ok (by simp)
@[simp] theorem tupP0 : tupP [] = .ok (.tup []) := tupP_ok (by simp)
@[simp] theorem tupP1 : tupP [p] = .ok (.tup [p]) := tupP_ok (by simp)
@[simp] theorem tupP2 : tupP [p, q] = .ok (.tup [p, q]) := tupP_ok (by simp)
@[simp] theorem tupP3 : tupP [p, q, x] = .ok (.tup [p, q, x]) := tupP_ok (by simp)
@[simp] theorem lstP1 : lstP [p] = .ok (.lst [p]) := lstP_ok (by simp)
@[simp] theorem lstP2 : lstP [p, q] = .ok (.lst [p, q]) := lstP_ok (by simp)
@[simp] theorem lstP3 : lstP [p, q, x] = .ok (.lst [p, q, x]) := lstP_ok (by simp)
@[simp] theorem lstP4 : lstP [p, q, x, y] = .ok (.lst [p, q, x, y]) := lstP_ok (by simp)
/-- places -/
theorem atI_at {α : Type} {l : List α} (h0 : 0 ≤ a) : atI l a = l[a.toNat]? := by
  unfold atI ixN
  rw [if_pos h0]
  by_cases h : a < l.length
  · rw [if_pos h]; rfl
  · rw [if_neg h, List.getElem?_eq_none (by omega)]; rfl
theorem ixP_lst (h0 : 0 ≤ a) (h : ps[a.toNat]? = some p) : ixP (.lst ps) (.int a) = .ok p := by unfold ixP; dsimp only; rw [atI_at h0, h]
theorem ixP_tup (h0 : 0 ≤ a) (h : ps[a.toNat]? = some p) : ixP (.tup ps) (.int a) = .ok p := by unfold ixP; dsimp only; rw [atI_at h0, h]
theorem ixP_frz (h0 : 0 ≤ a) (h : ps[a.toNat]? = some p) : ixP (.frz ps) (.int a) = .ok p := by unfold ixP; dsimp only; rw [atI_at h0, h]
@[simp] theorem ixP_t0 : ixP (.tup (p :: ps)) (.int 0) = .ok p := ixP_tup (by omega) rfl
@[simp] theorem ixP_t1 : ixP (.tup (p :: q :: ps)) (.int 1) = .ok q := ixP_tup (by omega) rfl
@[simp] theorem ixP_t2 : ixP (.tup (p :: q :: x :: ps)) (.int 2) = .ok x := ixP_tup (by omega) rfl
@[simp] theorem ixP_l0 : ixP (.lst (p :: ps)) (.int 0) = .ok p := ixP_lst (by omega) rfl
@[simp] theorem ixP_l1 : ixP (.lst (p :: q :: ps)) (.int 1) = .ok q := ixP_lst (by omega) rfl
@[simp] theorem ixP_l2 : ixP (.lst (p :: q :: x :: ps)) (.int 2) = .ok x := ixP_lst (by omega) rfl
end
/-- one turn -/
def turnL (tgt : PV → Rho → Option Rho) (body : Rho → Out) (p : PV) (ρ : Rho) : Out := match tgt p ρ with
  | none => .stuck
  | some ρ1 => body ρ1
theorem forL_inv {tgt : PV → Rho → Option Rho} {body : Rho → Out} (I : Nat → Rho → Prop) : ∀ (items : List PV) (k : Nat) (ρ : Rho), I k ρ →
    (∀ j p ρ, items[j]? = some p → I (k + j) ρ → ∃ ρ', (turnL tgt body p ρ = .next ρ' ∨ turnL tgt body p ρ = .cont ρ') ∧ I (k + j + 1) ρ') → ∃ ρ', forL tgt body items ρ = .next ρ' ∧ I (k + items.length) ρ' := by
  intro items
  induction items with
  | nil => intro k ρ h _; exact ⟨ρ, rfl, h⟩
  | cons p ps ih =>
    intro k ρ h hs
    obtain ⟨ρ1, h1, h2⟩ := hs 0 p ρ rfl h
    obtain ⟨ρ2, h3, h4⟩ := ih (k + 1) ρ1 h2 fun j q ρ' hj hI => by
      have := hs (j + 1) q ρ' (by simpa using hj) (by rw [show k + (j + 1) = k + 1 + j by omega]; exact hI)
      rw [show k + 1 + j + 1 = k + (j + 1) + 1 by omega]
      exact this
    refine ⟨ρ2, ?_, by rw [List.length_cons, show k + (ps.length + 1) = k + 1 + ps.length by omega]; exact h4⟩
    unfold turnL at h1
    unfold forL
    revert h1
    cases tgt p ρ with
    | none => exact fun h1 => by rcases h1 with h1 | h1 <;> cases h1
    | some ρ1' =>
      dsimp only
      intro h1
      rcases h1 with h1 | h1 <;> (rw [h1]; exact h3)
/-- over a range -/
theorem forL_rng {tgt : PV → Rho → Option Rho} {body : Rho → Out} (I : Nat → Rho → Prop) (lo : Int) (n : Nat) (ρ : Rho) (h0 : I 0 ρ)
    (hs : ∀ (j : Nat) ρ, j < n → I j ρ → ∃ ρ', (turnL tgt body (.int (lo + j)) ρ = .next ρ' ∨ turnL tgt body (.int (lo + j)) ρ = .cont ρ') ∧ I (j + 1) ρ') : ∃ ρ', forL tgt body (rngL lo n) ρ = .next ρ' ∧ I n ρ' := by
  obtain ⟨ρ', h1, h2⟩ := forL_inv I (rngL lo n) 0 ρ h0 fun j p ρ hj hI => by
    unfold rngL at hj
    rw [List.getElem?_map] at hj
    cases hn : (List.range n)[j]? with
    | none => rw [hn] at hj; cases hj
    | some m =>
      rw [hn] at hj
      obtain ⟨g1, g2⟩ := List.getElem?_eq_some_iff.mp hn
      rw [List.getElem_range] at g2
      subst g2
      cases hj
      rw [List.length_range] at g1
      rw [Nat.zero_add] at hI ⊢
      exact hs j ρ g1 hI
  rw [rngL_len, Nat.zero_add] at h2
  exact ⟨ρ', h1, h2⟩
def R.stL (r : R (List PV)) (ρ : Rho) (k : List PV → Out) : Out := match r with
  | .ok p => k p
  | .exc c => .exc c ρ
  | .stuck => .stuck
@[simp] theorem stL_ok {k : List PV → Out} {l : List PV} {ρ : Rho} : (R.ok l).stL ρ k = k l := nr rfl
@[simp] theorem sFor_eq {it : Rho → R (List PV)} {tgt : PV → Rho → Option Rho} {body : Rho → Out} {ρ : Rho} : sFor it tgt body ρ = (it ρ).stL ρ fun items => forL tgt body items ρ := nr rfl
@[simp] theorem iR_eq {g : List PV → R (List PV)} {f : Rho → R (List PV)} {ρ : Rho} : iR g f ρ = (f ρ).bind g := nr rfl
@[simp] theorem iS_eq {f : Rho → R PV} {ρ : Rho} : iS f ρ = (f ρ).bind asS := nr rfl
@[simp] theorem iRv_eq {f : Rho → R PV} {ρ : Rho} : iRv f ρ = (f ρ).bind fun p => (asS p).bind fun l => .ok l.reverse := nr rfl
@[simp] theorem asS_l {l : List PV} : asS (.lst l) = .ok l := nr rfl
@[simp] theorem asS_t {l : List PV} : asS (.tup l) = .ok l := nr rfl
@[simp] theorem asS_f {l : List PV} : asS (.frz l) = .ok l := nr rfl
theorem rng2_ok {a b : Int} (ha : -(2 ^ 62) ≤ a) (ha2 : a < 2 ^ 62) (hb : -(2 ^ 62) ≤ b) (hb2 : b < 2 ^ 62) : rng2 [.int a, .int b] = .ok (rngL a (b - a).toNat) := nr rfl
theorem inR_of {a : Int} (h1 : -1000000000000 ≤ a) (h2 : a ≤ 1000000000000) : inR a = true := inR_iff.mpr ⟨by omega, by omega⟩
theorem rng1_sm {a : Int} (h1 : -1000000000000 ≤ a) (h2 : a ≤ 1000000000000) : rng1 [.int a] = .ok (rngL 0 a.toNat) := by
  unfold rng1; dsimp only; rw [if_pos (inR_of h1 h2)]
theorem rng2_sm {a b : Int} (h1 : -1000000000000 ≤ a) (h2 : a ≤ 1000000000000) (h3 : -1000000000000 ≤ b) (h4 : b ≤ 1000000000000) : rng2 [.int a, .int b] = .ok (rngL a (b - a).toNat) := nr rfl
theorem lcGo_map {tgt : PV → Rho → Option Rho} {elt : Rho → R PV} {ρ : Rho} (φ : PV → PV) : ∀ (items : List PV), (∀ p ∈ items, ∃ ρ', tgt p ρ = some ρ' ∧ elt ρ' = .ok (φ p)) → lcGo tgt cYes elt ρ items = .ok (items.map φ)
  | [], _ => rfl
  | p :: ps, h => by
    obtain ⟨ρ', h1, h2⟩ := h p List.mem_cons_self
    have ih := lcGo_map φ ps fun q hq => h q (List.mem_cons_of_mem _ hq)
    unfold lcGo
    rw [h1]
    dsimp only [cYes]
    rw [h2]
    dsimp only
    rw [ih]
    rfl
theorem lcGo_filter {tgt : PV → Rho → Option Rho} {test : Rho → R Bool} {elt : Rho → R PV} {ρ : Rho} (φ : PV → PV) (c : PV → Bool) : ∀ (items : List PV), (∀ p ∈ items, ∃ ρ', tgt p ρ = some ρ' ∧ test ρ' = .ok (c p) ∧ (c p = true → elt ρ' = .ok (φ p))) → lcGo tgt test elt ρ items = .ok ((items.filter c).map φ)
  | [], _ => rfl
  | p :: ps, h => by
    obtain ⟨ρ', h1, h2, h3⟩ := h p List.mem_cons_self
    have ih := lcGo_filter φ c ps fun q hq => h q (List.mem_cons_of_mem _ hq)
    unfold lcGo
    rw [h1]
    dsimp only
    rw [h2]
    cases hc : c p with
    | false => dsimp only; rw [ih, List.filter_cons_of_neg (by rw [hc]; decide)]
    | true =>
      dsimp only
      rw [h3 hc]
      dsimp only
      rw [ih, List.filter_cons_of_pos hc]
      rfl
theorem eLc_ok {vs : List Nat} {it : Rho → R (List PV)} {tgt : PV → Rho → Option Rho} {test : Rho → R Bool} {elt : Rho → R PV} {ρ : Rho} {items qs : List PV} (h1 : vs.all (notOwn ρ) = true) (h2 : it ρ = .ok items) (h3 : items.length ≤ 1000000) (h4 : lcGo tgt test elt (wipeR ρ vs) items = .ok qs) : eLc vs it tgt test elt ρ = .ok (.lst qs) := by
  unfold eLc
  rw [if_pos h1, h2, bind1, if_pos (size_ok h3), h4]
end PL
namespace PL
open PySem PySem.Spec L2
open PyProof.Rows hiding St
section
variable {a b : Int} {p : PV} {ps : List PV}
theorem fdivP_sm (h : 0 < b) (h2 : b ≤ 1000000000000000000000000000000000000000000000000000000000000) : fdivP (.int a) (.int b) = .ok (.int (a / b)) := fdivP_ii (by omega) (by omega) |>.trans (by rw [Int.fdiv_eq_ediv_of_nonneg a (by omega)])
theorem mulP_sm (h : -1000000000000000000000000000000000000000000000000000000000000 ≤ a) (h2 : a ≤ 1000000000000000000000000000000000000000000000000000000000000) (h3 : -1000000000000000000000000000000000000000000000000000000000000 ≤ b) (h4 : b ≤ 1000000000000000000000000000000000000000000000000000000000000) : mulP (.int a) (.int b) = .ok (.int (a * b)) :=
  mulP_ii (okMul_of (m := 250) (n := 250) (by omega) (by omega) (by omega) (by omega) (by omega))
theorem powP_sm (h0 : 0 ≤ b) (h1 : b ≤ 1000000) (h2 : -1000000 ≤ a) (h3 : a ≤ 1000000) : powP (.int a) (.int b) = .ok (.int (a ^ b.toNat)) := powP_ii h0 h1 (by omega)
/-- the item at a place, 0 beyond -/
def nth (l : List Int) (a : Int) : Int := l.getD a.toNat 0
theorem nth_mem {l : List Int} (h0 : 0 ≤ a) (h : a < l.length) : nth l a ∈ l := by
  unfold nth
  rw [List.getD_eq_getElem?_getD, List.getElem?_eq_getElem (by omega)]
  exact List.getElem_mem _
theorem getD_map (ns : List Int) (k : Nat) (h : k < ns.length) : (ns.map PV.int)[k]? = some (.int (ns.getD k 0)) := by
  rw [List.getElem?_map, List.getElem?_eq_getElem h, List.getD_eq_getElem?_getD, List.getElem?_eq_getElem h]
  rfl
/-- an item of a written list of ints -/
theorem ixP_ints {ns : List Int} (h0 : 0 ≤ a) (h : a < ns.length) : ixP (.lst (ns.map PV.int)) (.int a) = .ok (.int (nth ns a)) := ixP_lst h0 (getD_map ns _ (by omega))
theorem ixP_intsF {ns : List Int} (h0 : 0 ≤ a) (h : a < ns.length) : ixP (.frz (ns.map PV.int)) (.int a) = .ok (.int (nth ns a)) := ixP_frz h0 (getD_map ns _ (by omega))
end
end PL
namespace PL
open PySem PySem.Spec L2
open PyProof.Rows hiding St
end PL
namespace PL
open PySem PySem.Spec L2
open PyProof.Rows hiding St
theorem set_self {ρ : Rho} {i : Nat} {s : Slot} (h : ρ[i]? = some s) : ρ.set i s = ρ := by
  refine List.ext_getElem? fun j => ?_
  by_cases e : i = j
  · subst e; rw [List.getElem?_set_self (List.getElem?_eq_some_iff.mp h).1, h]
  · rw [List.getElem?_set_ne e]
theorem eVo_of {ρ : Rho} {i : Nat} {p : PV} (h : ρ[i]? = some (.val p)) : eVo i ρ = .ok p := by unfold eVo; rw [h]
theorem eV_of {ρ : Rho} {i : Nat} {p : PV} (h : ρ[i]? = some (.val p)) : eV i ρ = .ok p := by unfold eV; rw [h]
theorem pow_bound {a : Int} {m : Nat} (h : a.natAbs < 2 ^ m) : ∀ n : Nat, (a ^ n).natAbs < 2 ^ (m * n + 1)
  | 0 => by simp
  | n + 1 => by
    have ih := pow_bound h n
    rw [Int.pow_succ, Int.natAbs_mul, Nat.mul_succ, show m * n + m + 1 = (m * n + 1) + m by omega, Nat.pow_add]
    exact Nat.mul_lt_mul'' ih h
theorem mul_bound {a b : Int} {m n : Nat} (h : a.natAbs < 2 ^ m) (g : b.natAbs < 2 ^ n) : (a * b).natAbs < 2 ^ (m + n) := by
  rw [Int.natAbs_mul, Nat.pow_add]
  exact Nat.mul_lt_mul'' h g
/-- the turn's name behind a loop over range(n) -/
def lastS (ρ : Rho) (a n : Nat) : Slot := if n = 0 then ρ.getD a .un else .val (.int ((n : Int) - 1))
theorem lastS_succ (ρ : Rho) (a n : Nat) : lastS ρ a (n + 1) = .val (.int (0 + n)) := by
  unfold lastS
  rw [if_neg (by omega)]
  congr 2
  omega
/-- for k in range(n): x = x * y -/
theorem mul_loop {i j a : Nat} {ρ : Rho} {x y : Int} (n : Nat) (hi : ρ[i]? = some (.val (.int x))) (hj : ρ[j]? = some (.val (.int y))) (ij : i ≠ j) (aj : a ≠ j) (ai : a ≠ i) (ha : a < ρ.length) (hx : x.natAbs < 2 ^ 200) (hy : y.natAbs < 2 ^ 60) (hn : n ≤ 10000) :
    forL (gN a) (bSeq (sSet i (e2 mulP (eVo i) (eVo j))) bNil) (rngL 0 n) ρ = .next ((ρ.set i (.val (.int (x * y ^ n)))).set a (lastS ρ a n)) := by
  have hil : i < ρ.length := (List.getElem?_eq_some_iff.mp hi).1
  obtain ⟨ρ', e1, rfl⟩ := forL_rng (tgt := gN a) (body := bSeq (sSet i (e2 mulP (eVo i) (eVo j))) bNil) (fun k ρ' => ρ' = (ρ.set i (.val (.int (x * y ^ k)))).set a (lastS ρ a k)) 0 n ρ (by
    unfold lastS
    rw [Int.pow_zero, Int.mul_one, set_self hi, if_pos rfl, List.getD_eq_getElem?_getD, List.getElem?_eq_getElem ha]
    exact (set_self (List.getElem?_eq_getElem ha)).symm) (fun k ρ' hk e => by
    subst e
    refine ⟨_, .inl ?_, rfl⟩
    have hm : mulP (.int (x * y ^ k)) (.int y) = .ok (.int (x * y ^ k * y)) := mulP_ii (okMul_of (mul_bound hx (pow_bound hy k)) hy (by omega) (by omega) (by omega))
    have g1 : (((ρ.set i (.val (.int (x * y ^ k)))).set a (lastS ρ a k)).set a (.val (.int (0 + k))))[i]? = some (.val (.int (x * y ^ k))) := by
      rw [List.getElem?_set_ne ai, List.getElem?_set_ne ai, List.getElem?_set_self hil]
    have g2 : (((ρ.set i (.val (.int (x * y ^ k)))).set a (lastS ρ a k)).set a (.val (.int (0 + k))))[j]? = some (.val (.int y)) := by
      rw [List.getElem?_set_ne aj, List.getElem?_set_ne aj, List.getElem?_set_ne ij, hj]
    simp only [turnL, gN_eq, bSeq_eq, sSet_eq, e2_eq, eVo_of g1, eVo_of g2, bind1, hm, st_ok, then_next, bNil_eq]
    rw [List.set_set, List.set_comm _ _ ai, List.set_set, Int.pow_succ, Int.mul_assoc, lastS_succ])
  exact e1
end PL
set_option Elab.async false
set_option linter.all false
set_option maxRecDepth 100000
set_option autoImplicit false
namespace PL
open PySem PySem.Spec L2
open PyProof.Rows hiding St
end PL
set_option Elab.async false
set_option linter.all false
set_option maxRecDepth 100000
set_option autoImplicit false
namespace PL
open PySem PySem.Spec L2
open PyProof.Rows hiding St
def asIs : List PV → Option (List Int)
  | [] => some []
  | .int b :: r => (asIs r).map (b :: ·)
  | _ => none
theorem asIs_map : ∀ {l : List PV} {bs : List Int}, asIs l = some bs → l = bs.map PV.int
  | [], _, h => by cases h; rfl
  | .int b :: r, bs, h => by
    unfold asIs at h
    obtain ⟨cs, h1, rfl⟩ := Option.map_eq_some_iff.mp h
    rw [asIs_map h1]; rfl
  | .non :: _, _, h | .bl _ :: _, _, h | .str _ :: _, _, h | .tup _ :: _, _, h | .lst _ :: _, _, h | .frz _ :: _, _, h | .dct :: _, _, h | .dt _ :: _, _, h | .obj _ _ _ :: _, _, h => by simp [asIs] at h
theorem asIs_of : ∀ bs : List Int, asIs (bs.map PV.int) = some bs
  | [] => rfl
  | b :: bs => by simp [asIs, asIs_of bs]
def leastI : List Int → Int
  | [] => 0
  | [n] => n
  | n :: m :: ns => min n (leastI (m :: ns))
theorem leastI_mem : ∀ {ns : List Int}, ns ≠ [] → leastI ns ∈ ns
  | [], h => absurd rfl h
  | [n], _ => List.mem_cons_self
  | n :: m :: ns, _ => by
    have ih := leastI_mem (ns := m :: ns) (fun z => nomatch z)
    show min n (leastI (m :: ns)) ∈ _
    rcases Int.le_total n (leastI (m :: ns)) with h | h
    · rw [Int.min_eq_left h]; exact List.mem_cons_self
    · rw [Int.min_eq_right h]; exact List.mem_cons_of_mem _ ih
theorem leastI_le : ∀ {ns : List Int}, ∀ y ∈ ns, leastI ns ≤ y
  | [], _, h => nomatch h
  | [n], y, h => by rw [List.mem_singleton.mp h]; exact Int.le_refl _
  | n :: m :: ns, y, h => by
    show min n (leastI (m :: ns)) ≤ y
    rcases List.mem_cons.mp h with rfl | h
    · exact Int.min_le_left ..
    · exact Int.le_trans (Int.min_le_right ..) (leastI_le y h)
def sumPL : List PV → R PV
  | [.lst l] => match asIs l with
    | some ns => .ok (.int ns.sum)
    | _ => .stuck
  | _ => .stuck
theorem sumPL_exc (ps : List PV) (c : Str) : sumPL ps ≠ .exc c := by unfold sumPL; split <;> (try split) <;> exact fun z => nomatch z
theorem sumPL_ok {ns : List Int} : sumPL [.lst (ns.map PV.int)] = .ok (.int ns.sum) := by unfold sumPL; dsimp only; rw [asIs_of]
theorem s_sumL (K : PySem.W.Frag) : CallS K (rSum K) .t .s sumPL := by
  intro H0 O0 σ ρ H H2 xs ps Q S s r G
  unfold sumPL at G
  split at G
  · split at G
    · rename_i ns hns
      obtain ⟨v, rfl, r1⟩ := pr1 r
      rw [asIs_map hns] at r1
      obtain ⟨a, vs, rfl, h1, r2⟩ := rt_lst r1
      rw [r2.ints] at h1
      exact ⟨a, ns, rfl, .inl (.inl h1), G _ _ (Same.refl _) (.int _)⟩
    · exact G.elim
  · exact G.elim
section
variable {X : Cx} {W : WX} {e : Expr} {pos p : Pos} {fA : Rho → R (List PV)}
theorem e_sum1 (hc : X.calm = true) (mg : X.mg "sum" = none) (hg : Gl X "sum") (ha : AJ X W .t [e] fA) (he : starEach [e] X.env = (false, eval e X.env) :: starEach [] X.env := by rfl) : EJ X W .s (.Call (.Name "sum" p) [e] [] pos) (eD sumPL fA) := e_callB (cr_sum hc) sumPL_exc (s_sumL _) hg mg (by decide +kernel) ha (he := he)
end
def sMut0 (i : Nat) (g : List PV → R (List PV)) : Rho → Out := fun ρ => match ρ[i]? with
  | some (.own ps) => (match g ps with
    | .ok qs => .next (ρ.set i (.own qs))
    | _ => .stuck)
  | _ => .stuck
def clearP : List PV → R (List PV) := fun _ => .ok []
def getN (ps : List PV) : PV → Option PV
  | .int k => if 0 ≤ k ∧ k < 1000000 then ps[k.toNat]? else none
  | _ => none
def augN (ps : List PV) : PV → PV → PV → R (List PV)
  | .int k, .int a, .int b => match ixN ps.length k with
    | some j => .ok (ps.set j (.int (a + b)))
    | none => .stuck
  | _, _, _ => .stuck
def sAugI (i : Nat) (fi f : Rho → R PV) : Rho → Out := fun ρ => match ρ[i]? with
  | some (.own ps) => sE fi (fun q ρ => match getN ps q with
    | some x => sE f (fun y ρ => match augN ps q x y with
      | .ok qs => .next (ρ.set i (.own qs))
      | _ => .stuck) ρ
    | none => .stuck) ρ
  | _ => .stuck
end PL
set_option Elab.async false
set_option linter.all false
set_option maxRecDepth 100000
set_option autoImplicit false
namespace PL
open PySem PySem.Spec L2
open PyProof.Rows hiding St
def isBP : PV → PV → R PV
  | .bl a, .bl b => .ok (.bl (decide (a = b)))
  | _, _ => .stuck
def notBP : PV → PV → R PV
  | .bl a, .bl b => .ok (.bl (!decide (a = b)))
  | _, _ => .stuck
@[simp] theorem isBP_bb (a b : Bool) : isBP (.bl a) (.bl b) = .ok (.bl (decide (a = b))) := rfl
@[simp] theorem notBP_bb (a b : Bool) : notBP (.bl a) (.bl b) = .ok (.bl (!decide (a = b))) := rfl
end PL
set_option Elab.async false
set_option linter.all false
set_option maxRecDepth 100000
set_option autoImplicit false
namespace PL
open PySem PySem.Spec L2
open PyProof.Rows hiding St
def kd : PV → Nat
  | .int _ => 0 | .bl _ => 1 | .str _ => 2 | .non => 3 | _ => 4
def kV : V → Nat
  | .int _ => 0 | .bl _ => 1 | .str _ => 2 | .non => 3 | _ => 4
end PL
set_option Elab.async false
set_option linter.all false
set_option maxRecDepth 100000
set_option autoImplicit false
namespace PL
open PySem PySem.Spec L2
open PyProof.Rows hiding St
end PL
set_option Elab.async false
set_option linter.all false
set_option maxRecDepth 100000
set_option autoImplicit false
namespace PL
open PySem PySem.Spec L2
open PyProof.Rows hiding St
open PySem.W (EachIs AllAlike Sortable dataLe dataLt alike)
end PL
set_option Elab.async false
set_option linter.all false
set_option maxRecDepth 100000
set_option autoImplicit false
namespace PL
open PySem PySem.Spec L2
open PyProof.Rows hiding St
end PL
set_option Elab.async false
set_option linter.all false
set_option maxRecDepth 100000
set_option autoImplicit false
namespace PL
open PySem PySem.Spec L2
open PyProof.Rows hiding St
end PL
set_option Elab.async false
set_option linter.all false
set_option maxRecDepth 100000
set_option autoImplicit false
namespace PL
open PySem PySem.Spec L2
open PyProof.Rows hiding St
def KeptB (b : Nat) (σ : St) (H H' : Hp) : Prop := ∀ d o, H d = some o → σ[b]? ≠ some (some (.ref d)) → H' d = some o
theorem KeptB.same {b : Nat} {σ : St} {H H' : Hp} (s : Same H H') : KeptB b σ H H' := fun d o h _ => s d o h
theorem KeptB.trans {b : Nat} {σ : St} {H H1 H2 : Hp} (k : KeptB b σ H H1) (l : KeptB b σ H1 H2) : KeptB b σ H H2 := fun d o h n => l d o (k d o h n) n
theorem set_has {ρ : Rho} {b : Nat} {s t : Slot} (h : ρ[b]? = some s) : (ρ.set b t)[b]? = some t := List.getElem?_set_self (List.getElem?_eq_some_iff.mp h).1
section
variable {K : PySem.W.Frag} {O0 : Addr → Prop} {σ : St} {ρ : Rho} {b : Nat} {c c' : List PV} {H0 H H' : Hp}
theorem oo_box (h : ρ[b]? = some (.own c)) {a : Addr} : OO O0 σ (ρ.set b (.own c')) a ↔ OO O0 σ ρ a := by
  constructor
  · rintro (z | ⟨j, rs, e1, e2⟩)
    · exact .inl z
    · by_cases e : b = j
      · subst e; exact .inr ⟨b, c, h, e2⟩
      · rw [List.getElem?_set_ne e] at e1; exact .inr ⟨j, rs, e1, e2⟩
  · rintro (z | ⟨j, rs, e1, e2⟩)
    · exact .inl z
    · by_cases e : b = j
      · subst e; exact .inr ⟨b, c', set_has h, e2⟩
      · exact .inr ⟨j, rs, by rw [List.getElem?_set_ne e]; exact e1, e2⟩
theorem KeptB.kept (h : ρ[b]? = some (.own c)) (k : KeptB b σ H H') : Kept (OO O0 σ ρ) H (OO O0 σ (ρ.set b (.own c'))) H' := fun a o ha n => ⟨k a o ha fun z => n (.inr ⟨b, c, h, z⟩), fun z => n ((oo_box h).mp z)⟩
end
section
variable {X : Cx} {W : WX} {e a a' : Expr} {pos : Pos} {b : Nat} {f h : Rho → R (PV × List PV)}
def x2 (b : Nat) (g : PV → PV → R PV) (f h : Rho → R (PV × List PV)) : Rho → R (PV × List PV) := fun ρ => (f ρ).bind fun x => (h (ρ.set b (.own x.2))).bind fun y => (g x.1 y.1).bind fun r => .ok (r, y.2)
end
/-- all but the list at a stay -/
def KeptA (a : Addr) (H H' : Hp) : Prop := ∀ d o, H d = some o → d ≠ a → H' d = some o
theorem KeptA.refl (a : Addr) (H : Hp) : KeptA a H H := fun _ _ h _ => h
theorem KeptA.trans {a : Addr} {H H1 H2 : Hp} (k : KeptA a H H1) (l : KeptA a H1 H2) : KeptA a H H2 := fun d o h n => l d o (k d o h n) n
theorem KeptA.same {a : Addr} {H H' : Hp} (s : Same H H') : KeptA a H H' := fun d o h _ => s d o h
theorem KeptB.a {b : Nat} {σ : St} {a : Addr} {H H' : Hp} (h : σ[b]? = some (some (.ref a))) (k : KeptB b σ H H') : KeptA a H H' := fun d o hd n => k d o hd fun z => by rw [h] at z; cases z; exact n rfl
theorem KeptA.b {b : Nat} {σ : St} {a : Addr} {H H' : Hp} (h : σ[b]? = some (some (.ref a))) (k : KeptA a H H') : KeptB b σ H H' := fun d o hd n => k d o hd fun z => n (by rw [z]; exact h)
end PL
set_option Elab.async false
set_option linter.all false
set_option maxRecDepth 100000
set_option autoImplicit false
namespace PL
open PySem PySem.Spec L2
open PyProof.Rows hiding St
end PL
set_option Elab.async false
set_option linter.all false
set_option maxRecDepth 100000
set_option autoImplicit false
namespace PL
open PySem PySem.Spec L2
open PyProof.Rows hiding St
end PL
set_option Elab.async false
set_option linter.all false
set_option maxRecDepth 100000
set_option autoImplicit false
namespace PL
open PySem PySem.Spec L2
open PyProof.Rows hiding St
end PL
set_option Elab.async false
set_option linter.all false
set_option maxRecDepth 100000
set_option autoImplicit false
namespace PL
open PySem PySem.Spec L2
open PyProof.Rows hiding St
end PL
set_option Elab.async false
set_option linter.all false
set_option maxRecDepth 100000
set_option autoImplicit false
namespace PL
open PySem PySem.Spec L2
open PyProof.Rows hiding St
def asStrs : List PV → Option (List Str)
  | [] => some []
  | .str s :: r => (asStrs r).map (s :: ·)
  | _ => none
@[simp] theorem asStrs_map : ∀ ys : List Str, asStrs (ys.map PV.str) = some ys
  | [] => rfl
  | y :: ys => by rw [List.map_cons, asStrs, asStrs_map ys]; rfl
/-- a method of a text with one argument -/
def eM (g : PV → PV → R PV) (f h : Rho → R PV) : Rho → R PV := fun ρ => (f ρ).bind fun p => match p with
  | .str _ => (h ρ).bind fun q => g p q
  | _ => .stuck
section
variable {X : Cx} {W : WX} {m1 m : Md} {o e : Expr} {apos pos : Pos} {f h : Rho → R PV}
variable {a b : Expr}
def signsP (x : Str) : List PV := x.cps.toList.map fun c => PV.str ⟨#[c]⟩
def iStrP (f : Rho → R PV) : Rho → R (List PV) := fun ρ => (f ρ).bind fun p => match p with
  | .str x => .ok (signsP x)
  | _ => .stuck
end
end PL
set_option Elab.async false
set_option linter.all false
set_option maxRecDepth 100000
set_option autoImplicit false
namespace PM
open PySem PySem.Spec L2 PL
open PyProof.Rows hiding St
noncomputable def D_is_whole : Rho → Out := (bSeq (sRet (eAn (e1 (isiP "int") (eVo 0)) (e1 notP (e1 (isiP "bool") (eVo 0))))) bNil)
noncomputable def F_is_whole : List PV → R PV := runF 1 D_is_whole
noncomputable def D_is_prime : Rho → Out := (bSeq (sIf (tOr' (tNt (tB1 (eD F_is_whole (aCons (eV 0) aNil)))) (tOr' (tB1 (e2 ltP (eVo 0) (eC (.int 2)))) (tB1 (e2 gtP (eVo 0) (eC (.int 97)))))) (bSeq (sRet (eC (.bl false))) bNil) bNil) (bSeq (sRet (eD allP (aCons (eLc [1] (iR rng2 (aCons (eC (.int 2)) (aCons (eVo 0) aNil))) (gN 1) cYes (e2 neP (e2 modP (eVo 0) (eVo 1)) (eC (.int 0)))) aNil))) bNil))
noncomputable def F_is_prime : List PV → R PV := runF 2 D_is_prime
noncomputable def D_power_of : Rho → Out := (bSeq (sSet 2 (eC (.int 1))) (bSeq (sFor (iR rng1 (aCons (eVo 1) aNil)) (gN 3) (bSeq (sAug 2 mulP (eVo 0)) bNil)) (bSeq (sRet (eV 2)) bNil)))
noncomputable def F_power_of : List PV → R PV := runF 4 D_power_of
noncomputable def D_exponent : Rho → Out := (bSeq (sSet 2 (eC (.int 0))) (bSeq (sTo (gT (gsCons (gN 3) (gsCons (gN 4) gsNil))) (eD divmodP (aCons (eVo 1) (aCons (eVo 0) aNil)))) (bSeq (sWh (tB1 (e2 eqP (eVo 4) (eC (.int 0)))) (bSeq (sAug 2 (intP (fun _ _ => true) fun a b => .int (a + b)) (eC (.int 1))) (bSeq (sTo (gT (gsCons (gN 3) (gsCons (gN 4) gsNil))) (eD divmodP (aCons (eVo 3) (aCons (eVo 0) aNil)))) bNil))) (bSeq (sRet (eV 2)) bNil))))
noncomputable def F_exponent : List PV → R PV := runF 5 D_exponent
noncomputable def D_divisor : Rho → Out := (bSeq (sSet 0 (eD absP (aCons (eVo 0) aNil))) (bSeq (sSet 1 (eD absP (aCons (eVo 1) aNil))) (bSeq (sWh (tB1 (e2 gtP (eVo 1) (eC (.int 0)))) (bSeq (sPar 0 1 (aCons (eV 1) (aCons (e2 modP (eVo 0) (eVo 1)) aNil))) bNil)) (bSeq (sRet (eV 0)) bNil))))
noncomputable def F_divisor : List PV → R PV := runF 2 D_divisor
noncomputable def D_fraction : Rho → Out := (bSeq (sIf (tOr' (tNt (tB1 (eD F_is_whole (aCons (eV 0) aNil)))) (tOr' (tNt (tB1 (eD F_is_whole (aCons (eV 1) aNil)))) (tB1 (e2 eqP (eVo 1) (eC (.int 0)))))) (bSeq (sRaise "NoFraction") bNil) bNil) (bSeq (sSet 2 (eD F_divisor (aCons (eV 0) (aCons (eV 1) aNil)))) (bSeq (sIf (tB1 (e2 ltP (eVo 1) (eC (.int 0)))) (bSeq (sSet 2 (e1 negP (eVo 2))) bNil) bNil) (bSeq (sRet (eD tupP (aCons (e2 fdivP (eVo 0) (eVo 2)) (aCons (e2 fdivP (eVo 1) (eVo 2)) aNil)))) bNil))))
noncomputable def F_fraction : List PV → R PV := runF 3 D_fraction
noncomputable def D_is_fraction : Rho → Out := (bSeq (sIf (tOr' (tNt (tB1 (e1 (isiP "tuple") (eVo 0)))) (tOr' (tB1 (e2 neP (eD lenP (aCons (eVo 0) aNil)) (eC (.int 2)))) (tOr' (tNt (tB1 (eD F_is_whole (aCons (e2 ixP (eVo 0) (eC (.int 0))) aNil)))) (tNt (tB1 (eD F_is_whole (aCons (e2 ixP (eVo 0) (eC (.int 1))) aNil))))))) (bSeq (sRet (eC (.bl false))) bNil) bNil) (bSeq (sRet (eAn (e2 gtP (e2 ixP (eVo 0) (eC (.int 1))) (eC (.int 0))) (e2 eqP (eD F_divisor (aCons (e2 ixP (eVo 0) (eC (.int 0))) (aCons (e2 ixP (eVo 0) (eC (.int 1))) aNil))) (eC (.int 1))))) bNil))
noncomputable def F_is_fraction : List PV → R PV := runF 1 D_is_fraction
noncomputable def D_plus_fraction : Rho → Out := (bSeq (sRet (eD F_fraction (aCons (e2 addP (e2 mulP (e2 ixP (eVo 0) (eC (.int 0))) (e2 ixP (eVo 1) (eC (.int 1)))) (e2 mulP (e2 ixP (eVo 1) (eC (.int 0))) (e2 ixP (eVo 0) (eC (.int 1))))) (aCons (e2 mulP (e2 ixP (eVo 0) (eC (.int 1))) (e2 ixP (eVo 1) (eC (.int 1)))) aNil)))) bNil)
noncomputable def F_plus_fraction : List PV → R PV := runF 2 D_plus_fraction
noncomputable def D_minus_fraction : Rho → Out := (bSeq (sRet (eD F_fraction (aCons (e2 subP (e2 mulP (e2 ixP (eVo 0) (eC (.int 0))) (e2 ixP (eVo 1) (eC (.int 1)))) (e2 mulP (e2 ixP (eVo 1) (eC (.int 0))) (e2 ixP (eVo 0) (eC (.int 1))))) (aCons (e2 mulP (e2 ixP (eVo 0) (eC (.int 1))) (e2 ixP (eVo 1) (eC (.int 1)))) aNil)))) bNil)
noncomputable def F_minus_fraction : List PV → R PV := runF 2 D_minus_fraction
noncomputable def D_times_fraction : Rho → Out := (bSeq (sRet (eD F_fraction (aCons (e2 mulP (e2 ixP (eVo 0) (eC (.int 0))) (e2 ixP (eVo 1) (eC (.int 0)))) (aCons (e2 mulP (e2 ixP (eVo 0) (eC (.int 1))) (e2 ixP (eVo 1) (eC (.int 1)))) aNil)))) bNil)
noncomputable def F_times_fraction : List PV → R PV := runF 2 D_times_fraction
noncomputable def D_over_fraction : Rho → Out := (bSeq (sRet (eD F_fraction (aCons (e2 mulP (e2 ixP (eVo 0) (eC (.int 0))) (e2 ixP (eVo 1) (eC (.int 1)))) (aCons (e2 mulP (e2 ixP (eVo 0) (eC (.int 1))) (e2 ixP (eVo 1) (eC (.int 0)))) aNil)))) bNil)
noncomputable def F_over_fraction : List PV → R PV := runF 2 D_over_fraction
noncomputable def D_exponent_of : Rho → Out := (bSeq (sRet (e2 subP (eD F_exponent (aCons (eV 0) (aCons (e2 ixP (eVo 1) (eC (.int 0))) aNil))) (eD F_exponent (aCons (eV 0) (aCons (e2 ixP (eVo 1) (eC (.int 1))) aNil))))) bNil)
noncomputable def F_exponent_of : List PV → R PV := runF 2 D_exponent_of
noncomputable def D_are_figures : Rho → Out := (bSeq (sIf (tNt (tB1 (e1 (isiP2 "list" "tuple") (eVo 1)))) (bSeq (sRet (eC (.bl false))) bNil) bNil) (bSeq (sRet (eD allP (aCons (eLc [2] (iS (eV 1)) (gN 2) cYes (eAn (eD F_is_whole (aCons (eV 2) aNil)) (eChain leP ltP (eC (.int 0)) (eVo 2) (eVo 0)))) aNil))) bNil))
noncomputable def F_are_figures : List PV → R PV := runF 3 D_are_figures
noncomputable def D_left_number : Rho → Out := (bSeq (sIf (tNt (tB1 (eD F_is_prime (aCons (eV 0) aNil)))) (bSeq (sRaise "NoPrime") bNil) bNil) (bSeq (sIf (tNt (tB1 (eD F_is_whole (aCons (eV 1) aNil)))) (bSeq (sRaise "NoPlace") bNil) bNil) (bSeq (sIf (tNt (tB1 (eD F_are_figures (aCons (eV 0) (aCons (eV 2) aNil))))) (bSeq (sRaise "NoFigures") bNil) bNil) (bSeq (sSet 3 (eC (.int 0))) (bSeq (sWh (tAn (tB1 (e2 ltP (eVo 3) (eD lenP (aCons (eVo 2) aNil)))) (tB1 (e2 eqP (e2 ixP (eVo 2) (eVo 3)) (eC (.int 0))))) (bSeq (sAug 3 (intP (fun _ _ => true) fun a b => .int (a + b)) (eC (.int 1))) bNil)) (bSeq (sRet (eD tupP (aCons (eV 0) (aCons (e2 addP (eVo 1) (eVo 3)) (aCons (eD tupleP (aCons (eSl slP (eVo 2) (oSome (eV 3)) oNone) aNil)) aNil))))) bNil))))))
noncomputable def F_left_number : List PV → R PV := runF 4 D_left_number
noncomputable def D_end_of : Rho → Out := (bSeq (sRet (e2 addP (e2 ixP (eVo 0) (eC (.int 1))) (eD lenP (aCons (e2 ixP (eVo 0) (eC (.int 2))) aNil)))) bNil)
noncomputable def F_end_of : List PV → R PV := runF 1 D_end_of
noncomputable def D_known_of : Rho → Out := (bSeq (sRet (eD lenP (aCons (e2 ixP (eVo 0) (eC (.int 2))) aNil))) bNil)
noncomputable def F_known_of : List PV → R PV := runF 1 D_known_of
noncomputable def D_unit_of : Rho → Out := (bSeq (sSet 1 (eC (.int 0))) (bSeq (sFor (iRv (e2 ixP (eVo 0) (eC (.int 2)))) (gN 2) (bSeq (sSet 1 (e2 addP (e2 mulP (eVo 1) (e2 ixP (eVo 0) (eC (.int 0)))) (eVo 2))) bNil)) (bSeq (sRet (eV 1)) bNil)))
noncomputable def F_unit_of : List PV → R PV := runF 3 D_unit_of
noncomputable def D_of_whole : Rho → Out := (bSeq (sSetO 4 (eD lstP aNil)) (bSeq (sFor (iR rng1 (aCons (eVo 3) aNil)) (gN 5) (bSeq (sTo (gT (gsCons (gN 2) (gsCons (gN 6) gsNil))) (eD divmodP (aCons (eVo 2) (aCons (eVo 0) aNil)))) (bSeq (sMut 4 appP (eV 6)) bNil))) (sFrz 4 (bSeq (sRet (eD F_left_number (aCons (eV 0) (aCons (eV 1) (aCons (eV 4) aNil))))) bNil))))
noncomputable def F_of_whole : List PV → R PV := runF 7 D_of_whole
noncomputable def D_is_left : Rho → Out := (bSeq (sIf (tOr' (tNt (tB1 (e1 (isiP "tuple") (eVo 0)))) (tOr' (tB1 (e2 neP (eD lenP (aCons (eVo 0) aNil)) (eC (.int 3)))) (tNt (tB1 (e1 (isiP "tuple") (e2 ixP (eVo 0) (eC (.int 2)))))))) (bSeq (sRet (eC (.bl false))) bNil) bNil) (bSeq (sIf (tOr' (tNt (tB1 (eD F_is_prime (aCons (e2 ixP (eVo 0) (eC (.int 0))) aNil)))) (tOr' (tNt (tB1 (eD F_is_whole (aCons (e2 ixP (eVo 0) (eC (.int 1))) aNil)))) (tNt (tB1 (eD F_are_figures (aCons (e2 ixP (eVo 0) (eC (.int 0))) (aCons (e2 ixP (eVo 0) (eC (.int 2))) aNil))))))) (bSeq (sRet (eC (.bl false))) bNil) bNil) (bSeq (sRet (eOr (e2 eqP (e2 ixP (eVo 0) (eC (.int 2))) (eD tupP aNil)) (e2 neP (e2 ixP (e2 ixP (eVo 0) (eC (.int 2))) (eC (.int 0))) (eC (.int 0))))) bNil)))
noncomputable def F_is_left : List PV → R PV := runF 1 D_is_left
noncomputable def D_want_alike : Rho → Out := (bSeq (sIf (tB1 (e2 neP (e2 ixP (eVo 0) (eC (.int 0))) (e2 ixP (eVo 1) (eC (.int 0))))) (bSeq (sRaise "Unlike") bNil) bNil) bNil)
noncomputable def F_want_alike : List PV → R PV := runF 2 D_want_alike
noncomputable def D_cut_at : Rho → Out := (bSeq (sIf (tB1 (e2 geP (eVo 1) (eD F_end_of (aCons (eV 0) aNil)))) (bSeq (sRet (eV 0)) bNil) bNil) (bSeq (sIf (tB1 (e2 leP (eVo 1) (e2 ixP (eVo 0) (eC (.int 1))))) (bSeq (sRet (eD F_left_number (aCons (e2 ixP (eVo 0) (eC (.int 0))) (aCons (eV 1) (aCons (eD tupP aNil) aNil))))) bNil) bNil) (bSeq (sRet (eD F_left_number (aCons (e2 ixP (eVo 0) (eC (.int 0))) (aCons (e2 ixP (eVo 0) (eC (.int 1))) (aCons (eSl slP (e2 ixP (eVo 0) (eC (.int 2))) oNone (oSome (e2 subP (eVo 1) (e2 ixP (eVo 0) (eC (.int 1)))))) aNil))))) bNil)))
noncomputable def F_cut_at : List PV → R PV := runF 2 D_cut_at
noncomputable def D_plus : Rho → Out := (bSeq (sDrop (eD F_want_alike (aCons (eV 0) (aCons (eV 1) aNil)))) (bSeq (sSet 2 (eD minP (aCons (eD F_end_of (aCons (eV 0) aNil)) (aCons (eD F_end_of (aCons (eV 1) aNil)) aNil)))) (bSeq (sSet 3 (eD F_cut_at (aCons (eV 0) (aCons (eV 2) aNil)))) (bSeq (sSet 4 (eD F_cut_at (aCons (eV 1) (aCons (eV 2) aNil)))) (bSeq (sSet 5 (eD minP (aCons (e2 ixP (eVo 3) (eC (.int 1))) (aCons (e2 ixP (eVo 4) (eC (.int 1))) aNil)))) (bSeq (sSet 6 (e2 mulP (eD F_unit_of (aCons (eV 3) aNil)) (eD F_power_of (aCons (e2 ixP (eVo 0) (eC (.int 0))) (aCons (e2 subP (e2 ixP (eVo 3) (eC (.int 1))) (eVo 5)) aNil))))) (bSeq (sAug 6 (intP (fun _ _ => true) fun a b => .int (a + b)) (e2 mulP (eD F_unit_of (aCons (eV 4) aNil)) (eD F_power_of (aCons (e2 ixP (eVo 0) (eC (.int 0))) (aCons (e2 subP (e2 ixP (eVo 4) (eC (.int 1))) (eVo 5)) aNil))))) (bSeq (sRet (eD F_of_whole (aCons (e2 ixP (eVo 0) (eC (.int 0))) (aCons (eV 5) (aCons (eV 6) (aCons (e2 subP (eVo 2) (eVo 5)) aNil)))))) bNil))))))))
noncomputable def F_plus : List PV → R PV := runF 7 D_plus
noncomputable def D_opposite : Rho → Out := (bSeq (sRet (eD F_of_whole (aCons (e2 ixP (eVo 0) (eC (.int 0))) (aCons (e2 ixP (eVo 0) (eC (.int 1))) (aCons (e1 negP (eD F_unit_of (aCons (eV 0) aNil))) (aCons (eD F_known_of (aCons (eV 0) aNil)) aNil)))))) bNil)
noncomputable def F_opposite : List PV → R PV := runF 1 D_opposite
noncomputable def D_minus : Rho → Out := (bSeq (sRet (eD F_plus (aCons (eV 0) (aCons (eD F_opposite (aCons (eV 1) aNil)) aNil)))) bNil)
noncomputable def F_minus : List PV → R PV := runF 2 D_minus
noncomputable def D_multiplied : Rho → Out := (bSeq (sDrop (eD F_want_alike (aCons (eV 0) (aCons (eV 1) aNil)))) (bSeq (sSet 2 (eD minP (aCons (eD F_known_of (aCons (eV 0) aNil)) (aCons (eD F_known_of (aCons (eV 1) aNil)) aNil)))) (bSeq (sRet (eD F_of_whole (aCons (e2 ixP (eVo 0) (eC (.int 0))) (aCons (e2 addP (e2 ixP (eVo 0) (eC (.int 1))) (e2 ixP (eVo 1) (eC (.int 1)))) (aCons (e2 mulP (eD F_unit_of (aCons (eV 0) aNil)) (eD F_unit_of (aCons (eV 1) aNil))) (aCons (eV 2) aNil)))))) bNil)))
noncomputable def F_multiplied : List PV → R PV := runF 3 D_multiplied
noncomputable def D_turned_over : Rho → Out := (bSeq (sPar 2 3 (aCons (e2 modP (eVo 0) (eVo 1)) (aCons (eV 1) aNil))) (bSeq (sTo (gT (gsCons (gN 4) (gsCons (gN 5) gsNil))) (eD tupP (aCons (eC (.int 1)) (aCons (eC (.int 0)) aNil)))) (bSeq (sWh (tB1 (e2 gtP (eVo 3) (eC (.int 0)))) (bSeq (sTo (gT (gsCons (gN 6) (gsCons (gN 7) gsNil))) (eD divmodP (aCons (eVo 2) (aCons (eVo 3) aNil)))) (bSeq (sPar 2 3 (aCons (eV 3) (aCons (eV 7) aNil))) (bSeq (sPar 4 5 (aCons (eV 5) (aCons (e2 subP (eVo 4) (e2 mulP (eVo 6) (eVo 5))) aNil))) bNil)))) (bSeq (sRet (e2 modP (eVo 4) (eVo 1))) bNil))))
noncomputable def F_turned_over : List PV → R PV := runF 8 D_turned_over
noncomputable def D_divided : Rho → Out := (bSeq (sIf (tB1 (e2 neP (e2 ixP (eVo 0) (eC (.int 0))) (e2 ixP (eVo 1) (eC (.int 0))))) (bSeq (sRaise "Unlike") bNil) bNil) (bSeq (sIf (tB1 (e2 eqP (e2 ixP (eVo 1) (eC (.int 2))) (eD tupP aNil))) (bSeq (sRaise "NoQuotient") bNil) bNil) (bSeq (sSet 2 (eD minP (aCons (eD F_known_of (aCons (eV 0) aNil)) (aCons (eD F_known_of (aCons (eV 1) aNil)) aNil)))) (bSeq (sSet 3 (eD F_turned_over (aCons (eD F_unit_of (aCons (eV 1) aNil)) (aCons (eD F_power_of (aCons (e2 ixP (eVo 0) (eC (.int 0))) (aCons (eV 2) aNil))) aNil)))) (bSeq (sRet (eD F_of_whole (aCons (e2 ixP (eVo 0) (eC (.int 0))) (aCons (e2 subP (e2 ixP (eVo 0) (eC (.int 1))) (e2 ixP (eVo 1) (eC (.int 1)))) (aCons (e2 mulP (eD F_unit_of (aCons (eV 0) aNil)) (eVo 3)) (aCons (eV 2) aNil)))))) bNil)))))
noncomputable def F_divided : List PV → R PV := runF 4 D_divided
noncomputable def D_often : Rho → Out := (bSeq (sSet 3 (eC (.int 1))) (bSeq (sWh (tB1 (e2 gtP (eVo 1) (eC (.int 0)))) (bSeq (sIf (tB1 (e2 eqP (e2 modP (eVo 1) (eC (.int 2))) (eC (.int 1)))) (bSeq (sSet 3 (e2 modP (e2 mulP (eVo 3) (eVo 0)) (eVo 2))) bNil) bNil) (bSeq (sSet 0 (e2 modP (e2 mulP (eVo 0) (eVo 0)) (eVo 2))) (bSeq (sSet 1 (e2 fdivP (eVo 1) (eC (.int 2)))) bNil)))) (bSeq (sRet (eV 3)) bNil)))
noncomputable def F_often : List PV → R PV := runF 4 D_often
noncomputable def D_known_of_power : Rho → Out := (bSeq (sSet 3 (eD F_exponent (aCons (eV 0) (aCons (eV 2) aNil)))) (bSeq (sIf (tAn (tB1 (e2 eqP (eVo 0) (eC (.int 2)))) (tAn (tB1 (e2 eqP (eVo 1) (eC (.int 1)))) (tB1 (e2 gtP (eVo 3) (eC (.int 0)))))) (bSeq (sRet (e2 addP (eVo 3) (eC (.int 2)))) bNil) bNil) (bSeq (sRet (e2 addP (eVo 1) (eVo 3))) bNil)))
noncomputable def F_known_of_power : List PV → R PV := runF 4 D_known_of_power
noncomputable def D_raised : Rho → Out := (bSeq (sIf (tOr' (tNt (tB1 (eD F_is_whole (aCons (eV 1) aNil)))) (tOr' (tB1 (e2 ltP (eVo 1) (eC (.int 1)))) (tB1 (e2 gtP (eVo 1) (eC (.int 1000)))))) (bSeq (sRaise "NoPower") bNil) bNil) (bSeq (sIf (tB1 (e2 eqP (e2 ixP (eVo 0) (eC (.int 2))) (eD tupP aNil))) (bSeq (sRet (eD F_left_number (aCons (e2 ixP (eVo 0) (eC (.int 0))) (aCons (e2 mulP (eVo 1) (e2 ixP (eVo 0) (eC (.int 1)))) (aCons (eD tupP aNil) aNil))))) bNil) bNil) (bSeq (sSet 2 (eD F_known_of_power (aCons (e2 ixP (eVo 0) (eC (.int 0))) (aCons (eD F_known_of (aCons (eV 0) aNil)) (aCons (eV 1) aNil))))) (bSeq (sSet 3 (eD F_often (aCons (eD F_unit_of (aCons (eV 0) aNil)) (aCons (eV 1) (aCons (eD F_power_of (aCons (e2 ixP (eVo 0) (eC (.int 0))) (aCons (eV 2) aNil))) aNil))))) (bSeq (sRet (eD F_of_whole (aCons (e2 ixP (eVo 0) (eC (.int 0))) (aCons (e2 mulP (eVo 1) (e2 ixP (eVo 0) (eC (.int 1)))) (aCons (eV 3) (aCons (eV 2) aNil)))))) bNil)))))
noncomputable def F_raised : List PV → R PV := runF 4 D_raised
noncomputable def D_bared : Rho → Out := (bSeq (sRet (eLc [2] (iS (eV 1)) (gN 2) cYes (e2 fdivP (eVo 2) (eD F_power_of (aCons (eV 0) (aCons (eD F_exponent (aCons (eV 0) (aCons (eV 2) aNil))) aNil)))))) bNil)
noncomputable def F_bared : List PV → R PV := runF 3 D_bared
noncomputable def D_figures_of : Rho → Out := (bSeq (sSet 4 (e2 ixP (eLc [8] (iR rng1 (aCons (eVo 0) aNil)) (gN 8) (tB1 (e2 eqP (e2 modP (e2 mulP (eVo 2) (eVo 8)) (eVo 0)) (eC (.int 1)))) (eV 8)) (eC (.int 0)))) (bSeq (sSetO 5 (eD lstP aNil)) (bSeq (sFor (iR rng1 (aCons (eVo 3) aNil)) (gN 6) (bSeq (sSet 7 (e2 modP (e2 mulP (eVo 1) (eVo 4)) (eVo 0))) (bSeq (sMut 5 appP (eV 7)) (bSeq (sSet 1 (e2 fdivP (e2 subP (eVo 1) (e2 mulP (eVo 7) (eVo 2))) (eVo 0))) bNil)))) (bSeq (sRetO 5) bNil))))
noncomputable def F_figures_of : List PV → R PV := runF 9 D_figures_of
noncomputable def D_seen_left : Rho → Out := (bSeq (sIf (tNt (tB1 (eD F_is_prime (aCons (eV 0) aNil)))) (bSeq (sRaise "NoPrime") bNil) bNil) (bSeq (sIf (tNt (tB1 (eD F_is_whole (aCons (eV 2) aNil)))) (bSeq (sRaise "NoPlace") bNil) bNil) (bSeq (sIf (tNt (tB1 (eD F_is_fraction (aCons (eV 1) aNil)))) (bSeq (sRaise "NoFraction") bNil) bNil) (bSeq (sIf (tOr' (tB1 (e2 eqP (e2 ixP (eVo 1) (eC (.int 0))) (eC (.int 0)))) (tB1 (e2 geP (eD F_exponent_of (aCons (eV 0) (aCons (eV 1) aNil))) (eVo 2)))) (bSeq (sRet (eD F_left_number (aCons (eV 0) (aCons (eV 2) (aCons (eD tupP aNil) aNil))))) bNil) bNil) (bSeq (sSet 3 (eD F_exponent_of (aCons (eV 0) (aCons (eV 1) aNil)))) (bSeq (sTo (gT (gsCons (gN 4) (gsCons (gN 5) gsNil))) (eD F_bared (aCons (eV 0) (aCons (eV 1) aNil)))) (bSeq (sRet (eD F_left_number (aCons (eV 0) (aCons (eV 3) (aCons (eD F_figures_of (aCons (eV 0) (aCons (eV 4) (aCons (eV 5) (aCons (e2 subP (eVo 2) (eVo 3)) aNil))))) aNil))))) bNil)))))))
noncomputable def F_seen_left : List PV → R PV := runF 6 D_seen_left
noncomputable def D_turned : Rho → Out := (bSeq (sSet 2 (eD tupP (aCons (eV 1) (aCons (eC (.int 0)) aNil)))) (bSeq (sSet 3 (eD tupP (aCons (e2 modP (eVo 0) (eVo 1)) (aCons (eC (.int 1)) aNil)))) (bSeq (sWh (tB1 (e2 gtP (e2 ixP (eVo 3) (eC (.int 0))) (eC (.int 0)))) (bSeq (sSet 4 (e2 fdivP (e2 ixP (eVo 2) (eC (.int 0))) (e2 ixP (eVo 3) (eC (.int 0))))) (bSeq (sPar 2 3 (aCons (eV 3) (aCons (eD tupP (aCons (e2 subP (e2 ixP (eVo 2) (eC (.int 0))) (e2 mulP (eVo 4) (e2 ixP (eVo 3) (eC (.int 0))))) (aCons (e2 subP (e2 ixP (eVo 2) (eC (.int 1))) (e2 mulP (eVo 4) (e2 ixP (eVo 3) (eC (.int 1))))) aNil))) aNil))) bNil))) (bSeq (sRet (e2 modP (e2 ixP (eVo 2) (eC (.int 1))) (eVo 1))) bNil))))
noncomputable def F_turned : List PV → R PV := runF 5 D_turned
noncomputable def D_is_near_one : Rho → Out := (bSeq (sTo (gT (gsCons (gN 1) (gsCons (gN 2) (gsCons (gN 3) gsNil)))) (eV 0)) (bSeq (sIf (tOr' (tB1 (e2 neP (eVo 2) (eC (.int 0)))) (tOr' (tB1 (e2 eqP (eVo 3) (eD tupP aNil))) (tB1 (e2 neP (e2 ixP (eVo 3) (eC (.int 0))) (eC (.int 1)))))) (bSeq (sRet (eC (.bl false))) bNil) bNil) (bSeq (sRet (eOr (e2 neP (eVo 1) (eC (.int 2))) (eAn (e2 gtP (eD lenP (aCons (eVo 3) aNil)) (eC (.int 1))) (e2 eqP (e2 ixP (eVo 3) (eC (.int 1))) (eC (.int 0)))))) bNil)))
noncomputable def F_is_near_one : List PV → R PV := runF 4 D_is_near_one
end PM
set_option Elab.async false
set_option linter.all false
set_option maxRecDepth 100000
set_option autoImplicit false
namespace PM
open PySem PySem.Spec L2 PL
open PyProof.Rows hiding St
theorem f_is_whole (p : PV) : F_is_whole [p] = .ok (.bl (isW p)) := by
  show (D_is_whole [.val p]).res = _
  simp [D_is_whole, whole_eq]
def primesL : List Int := [2, 3, 5, 7, 11, 13, 17, 19, 23, 29, 31, 37, 41, 43, 47, 53, 59, 61, 67, 71, 73, 79, 83, 89, 97]
def isP (p : PV) : Bool := match p with
  | .int n => decide (n ∈ primesL)
  | _ => false
def primesN : List Nat := [2, 3, 5, 7, 11, 13, 17, 19, 23, 29, 31, 37, 41, 43, 47, 53, 59, 61, 67, 71, 73, 79, 83, 89, 97]
theorem primes_tab : ((List.range 98).all fun k => (!decide (2 ≤ k)) || (((List.range (k - 2)).all fun i => !(k % (2 + i) == 0)) == primesN.contains k)) = true := by decide +kernel
theorem primes_by (k : Nat) (hk : k < 98) (h2 : 2 ≤ k) : ((List.range (k - 2)).map fun (i : Nat) => (!(((k : Int) % ((2 : Int) + (i : Int))) == 0))).all id = decide ((k : Int) ∈ primesL) := by
  have h := List.all_eq_true.mp primes_tab k (List.mem_range.mpr hk)
  rw [decide_eq_true h2, Bool.not_true, Bool.false_or, beq_iff_eq] at h
  have e1 : (fun (i : Nat) => (!(((k : Int) % ((2 : Int) + (i : Int))) == 0))) = fun i => !(k % (2 + i) == 0) := by
    funext i
    rw [show ((2 : Int) + (i : Int)) = ((2 + i : Nat) : Int) by omega, ← Int.natCast_emod]
    congr 1
    rw [Bool.eq_iff_iff, beq_iff_eq, beq_iff_eq]
    omega
  rw [e1, List.all_map]
  show ((List.range (k - 2)).all fun i => !(k % (2 + i) == 0)) = _
  rw [h, List.contains_eq_mem]
  have e2 : primesL = primesN.map fun (n : Nat) => (n : Int) := rfl
  rw [Bool.eq_iff_iff, decide_eq_true_eq, decide_eq_true_eq, e2, List.mem_map]
  constructor
  · exact fun z => ⟨k, z, rfl⟩
  · rintro ⟨n, z, e⟩
    rw [show k = n by omega]; exact z
theorem primesL_le : ∀ n ∈ primesL, 2 ≤ n ∧ n ≤ 97 := by decide
def neM (k : Int) : PV → PV
  | .int i => .bl (!((k % i) == 0))
  | _ => .non
theorem prime_hr (k : Nat) (hk : k < 98) (h2 : 2 ≤ k) : iR rng2 (aCons (eC (.int 2)) (aCons (eVo 0) aNil)) [.val (.int (k : Int)), .un] = .ok (rngL 2 (k - 2)) := by
  simp only [iR_eq, aCons_eq, eC_eq, bind1, eVo0, aNil_eq]
  rw [rng2_sm (by omega) (by omega) (by omega) (by omega)]
  rw [show ((k : Int) - 2).toNat = k - 2 by omega]
theorem prime_hm (k : Nat) : lcGo (gN 1) cYes (e2 neP (e2 modP (eVo 0) (eVo 1)) (eC (.int 0))) [.val (.int (k : Int)), .un] (rngL 2 (k - 2)) = .ok ((rngL 2 (k - 2)).map (neM k)) :=
  lcGo_map _ _ fun q hq => by
    unfold rngL at hq
    obtain ⟨i, hi, rfl⟩ := List.mem_map.mp hq
    refine ⟨_, rfl, ?_⟩
    simp only [e2_eq, eVo0, bind1, List.set_cons_succ, List.set_cons_zero, eVos, eC_eq]
    rw [modP_pos (by omega)]
    simp [neM]
theorem prime_map (k : Nat) : (rngL 2 (k - 2)).map (neM k) = (((List.range (k - 2)).map fun (i : Nat) => (!(((k : Int) % ((2 : Int) + (i : Int))) == 0)))).map PV.bl := by
  unfold rngL
  rw [List.map_map, List.map_map]
  rfl
theorem allP_bl (bs : List Bool) : allP [.lst (bs.map PV.bl)] = .ok (.bl (bs.all id)) := by
  unfold allP
  dsimp only
  rw [asBs_of]
def primeBs (k : Nat) : List Bool := (List.range (k - 2)).map fun (i : Nat) => (!(((k : Int) % ((2 : Int) + (i : Int))) == 0))
theorem prime_he (k : Nat) (hk : k < 98) (h2 : 2 ≤ k) : eLc [1] (iR rng2 (aCons (eC (.int 2)) (aCons (eVo 0) aNil))) (gN 1) cYes (e2 neP (e2 modP (eVo 0) (eVo 1)) (eC (.int 0))) [.val (.int (k : Int)), .un] = .ok (.lst ((primeBs k).map PV.bl)) := by
  rw [eLc_ok (vs := [1]) (test := cYes) (ρ := [.val (.int (k : Int)), .un]) rfl (prime_hr k hk h2) (by rw [rngL_len]; omega) (prime_hm k), prime_map]
  rfl
theorem f_is_prime (p : PV) : F_is_prime [p] = .ok (.bl (isP p)) := by
  show (D_is_prime [.val p, .un]).res = _
  by_cases hw : isW p = true
  · cases p with
    | int n =>
      by_cases h2 : n < 2
      · have : ¬ n ∈ primesL := fun h => by have := primesL_le n h; omega
        simp [D_is_prime, f_is_whole, isW, h2, isP, this]
      · by_cases h97 : 97 < n
        · have : ¬ n ∈ primesL := fun h => by have := primesL_le n h; omega
          simp [D_is_prime, f_is_whole, isW, h2, h97, isP, this]
        · obtain ⟨k, rfl⟩ : ∃ k : Nat, n = (k : Int) := ⟨n.toNat, by omega⟩
          unfold D_is_prime
          have hb : (primeBs k).all id = decide ((k : Int) ∈ primesL) := primes_by k (by omega) (by omega)
          simp [D_is_prime, f_is_whole, isW, h2, h97, isP, prime_he k (by omega) (by omega), allP_bl, hb]
    | _ => simp [isW] at hw
  · have hw' : isW p = false := by cases h : isW p <;> simp_all
    have hp : isP p = false := by cases p <;> simp_all [isP, isW]
    simp [D_is_prime, f_is_whole, hw', hp]
theorem f_power_of (p k : Int) (hp : p.natAbs < 2 ^ 60) (h0 : 0 ≤ k) (h1 : k ≤ 10000) : F_power_of [.int p, .int k] = .ok (.int (p ^ k.toNat)) := by
  show (D_power_of [.val (.int p), .val (.int k), .un, .un]).res = _
  simp only [D_power_of, bSeq_eq, sSet_eq, eC_eq, st_ok, then_next, List.set_cons_succ, List.set_cons_zero, sFor_eq, iR_eq, aCons_eq, aNil_eq, eVo0, eVos, bind1]
  rw [rng1_sm (by omega) (by omega)]
  obtain ⟨ρ', e1, s, rfl⟩ := forL_rng (tgt := gN 3) (body := bSeq (sAug 2 mulP (eVo 0)) bNil) (fun j ρ => ∃ s, ρ = [.val (.int p), .val (.int k), .val (.int (p ^ j)), s]) 0 k.toNat [.val (.int p), .val (.int k), .val (.int 1), .un] ⟨.un, by simp⟩ (fun j ρ hj ⟨s, e⟩ => by
    subst e
    have hm : mulP (.int (p ^ j)) (.int p) = .ok (.int (p ^ j * p)) := mulP_ii (okMul_of (pow_bound hp j) hp (by omega) (by omega) (by omega))
    refine ⟨_, .inl ?_, .val (.int (0 + j)), rfl⟩
    rw [Int.pow_succ]
    simp [turnL, hm])
  rw [stL_ok, e1]
  simp
theorem f_exponent (p m : Int) (hp : 2 ≤ p) (hp2 : p < 2 ^ 8000) (hm : m % p ≠ 0) (k : Nat) : F_exponent [.int p, .int (m * p ^ k)] = .ok (.int k) := by
  have turn : ∀ k : Nat, divmodP [.int (m * p ^ k), .int p] = .ok (.tup [.int (m * p ^ k / p), .int (m * p ^ k % p)]) := fun k => divmodP_pos (by omega) (by omega)
  have up : ∀ k : Nat, m * p ^ (k + 1) / p = m * p ^ k ∧ m * p ^ (k + 1) % p = 0 := fun k => by
    rw [Int.pow_succ, ← Int.mul_assoc]
    exact ⟨Int.mul_ediv_cancel _ (by omega), Int.mul_emod_left _ _⟩
  have run : ∀ (j : Nat) (c : Int) (a : PV), sWh (tB1 (e2 eqP (eVo 4) (eC (.int 0)))) (bSeq (sAug 2 (intP (fun _ _ => true) fun a b => .int (a + b)) (eC (.int 1))) (bSeq (sTo (gT (gsCons (gN 3) (gsCons (gN 4) gsNil))) (eD divmodP (aCons (eVo 3) (aCons (eVo 0) aNil)))) bNil))
      [.val (.int p), .val a, .val (.int c), .val (.int (m * p ^ j / p)), .val (.int (m * p ^ j % p))] = .next [.val (.int p), .val a, .val (.int (c + j)), .val (.int (m / p)), .val (.int (m % p))] := by
    intro j
    induction j with
    | zero =>
      intro c a
      have hm' : (m % p == 0) = false := by simpa using hm
      rw [sWh_eq]
      simp [hm']
    | succ j ih =>
      intro c a
      rw [sWh_eq, (up j).1, (up j).2]
      simp [turn, ih]
      omega
  show (D_exponent [.val (.int p), .val (.int (m * p ^ k)), .un, .un, .un]).res = _
  simp [D_exponent, turn, run]
end PM
set_option Elab.async false
set_option linter.all false
set_option maxRecDepth 100000
set_option autoImplicit false
namespace PM
open PySem PySem.Spec L2 PL
open PyProof.Rows hiding St
theorem isi_lt (p : PV) : isiP2 "list" "tuple" p = .ok (.bl (isL p || isT p)) := by
  have e1 : kitB "NoneType" "list" = some false := by decide +kernel
  have e2 : kitB "bool" "list" = some false := by decide +kernel
  have e3 : kitB "int" "list" = some false := by decide +kernel
  have e4 : kitB "str" "list" = some false := by decide +kernel
  have e5 : kitB "tuple" "list" = some false := by decide +kernel
  have e6 : kitB "list" "list" = some true := by decide +kernel
  have e7 : kitB "dict" "list" = some false := by decide +kernel
  have d1 : kitB "NoneType" "tuple" = some false := by decide +kernel
  have d2 : kitB "bool" "tuple" = some false := by decide +kernel
  have d3 : kitB "int" "tuple" = some false := by decide +kernel
  have d4 : kitB "str" "tuple" = some false := by decide +kernel
  have d5 : kitB "tuple" "tuple" = some true := by decide +kernel
  have d6 : kitB "list" "tuple" = some false := by decide +kernel
  have d7 : kitB "dict" "tuple" = some false := by decide +kernel
  cases p <;> simp [isiP2, kitP, tyN, e1, e2, e3, e4, e5, e6, e7, d1, d2, d3, d4, d5, d6, d7, isL, isT]
def R.own (r : R (List PV)) (ρ : Rho) (i : Nat) : Out := match r with
  | .ok qs => .next (ρ.set i (.own qs))
  | _ => .stuck
@[simp] theorem own_ok {qs : List PV} {ρ : Rho} {i : Nat} : R.own (.ok qs) ρ i = .next (ρ.set i (.own qs)) := nr rfl
def getOwn (ρ : Rho) (i : Nat) : Option (List PV) := match ρ[i]? with
  | some (.own ps) => some ps
  | _ => none
@[simp] theorem getOwn0 {ps : List PV} {ρ : Rho} : getOwn (.own ps :: ρ) 0 = some ps := nr rfl
@[simp] theorem getOwnS {s : Slot} {ρ : Rho} {i : Nat} : getOwn (s :: ρ) (i + 1) = getOwn ρ i := by simp [getOwn]
def onOwn (o : Option (List PV)) (k : List PV → Out) : Out := match o with
  | some ps => k ps
  | none => .stuck
@[simp] theorem onOwn_some {ps : List PV} {k : List PV → Out} : onOwn (some ps) k = k ps := nr rfl
@[simp] theorem sMut_eq {i : Nat} {g : List PV → PV → R (List PV)} {f : Rho → R PV} {ρ : Rho} : sMut i g f ρ = onOwn (getOwn ρ i) fun ps => (f ρ).st ρ fun p => R.own (g ps p) ρ i := by
  unfold sMut getOwn
  cases ρ[i]? with
  | none => rfl
  | some t => cases t <;> rfl
def asL : PV → R (List PV)
  | .lst l => .ok l
  | _ => .stuck
@[simp] theorem asL_l {l : List PV} : asL (.lst l) = .ok l := nr rfl
@[simp] theorem sSetO_eq {i : Nat} {f : Rho → R PV} {ρ : Rho} : sSetO i f ρ = (f ρ).st ρ fun p => R.own (asL p) ρ i := by
  unfold sSetO sE R.st R.own asL
  cases f ρ with
  | ok p => cases p <;> rfl
  | exc c => rfl
  | stuck => rfl
@[simp] theorem sRetO_eq {i : Nat} {ρ : Rho} : sRetO i ρ = onOwn (getOwn ρ i) fun ps => .ret (.lst ps) := by
  unfold sRetO getOwn
  cases ρ[i]? with
  | none => rfl
  | some t => cases t <;> rfl
def frzR (ρ : Rho) (i : Nat) : Rho := match ρ[i]? with
  | some (.own ps) => ρ.set i (.val (.lst ps))
  | _ => ρ
@[simp] theorem frzR0 {ps : List PV} {ρ : Rho} : frzR (.own ps :: ρ) 0 = .val (.lst ps) :: ρ := nr rfl
@[simp] theorem frzR0v {p : PV} {ρ : Rho} : frzR (.val p :: ρ) 0 = .val p :: ρ := nr rfl
@[simp] theorem frzR0u {ρ : Rho} : frzR (.un :: ρ) 0 = .un :: ρ := nr rfl
@[simp] theorem frzRS {s : Slot} {ρ : Rho} {i : Nat} : frzR (s :: ρ) (i + 1) = s :: frzR ρ i := by
  unfold frzR
  rw [List.getElem?_cons_succ]
  cases ρ[i]? with
  | none => rfl
  | some t => cases t <;> rfl
@[simp] theorem sFrz_eq {i : Nat} {g : Rho → Out} {ρ : Rho} : sFrz i g ρ = g (frzR ρ i) := by
  unfold sFrz frzR
  cases ρ[i]? with
  | none => rfl
  | some t => cases t <;> rfl
theorem appP_ok {l : List PV} {p : PV} (h : l.length < 1000000) : appP l p = .ok (l ++ [p]) := by
  unfold appP
  rw [if_pos (Nat.lt_of_lt_of_le h (size_ok (Nat.le_refl _)))]
@[simp] theorem sSetI_eq {i : Nat} {f fi : Rho → R PV} {ρ : Rho} : sSetI i f fi ρ = onOwn (getOwn ρ i) fun ps => (f ρ).st ρ fun p => (fi ρ).st ρ fun q => R.own (setP ps p q) ρ i := by
  unfold sSetI getOwn
  cases ρ[i]? with
  | none => rfl
  | some t => cases t <;> rfl
def Out.fo (o : Out) (k : Rho → Out) : Out := match o with
  | .next ρ => k ρ
  | .cont ρ => k ρ
  | .brk ρ => .next ρ
  | o => o
@[simp] theorem fo_next {ρ : Rho} {k : Rho → Out} : Out.fo (.next ρ) k = k ρ := nr rfl
@[simp] theorem fo_cont {ρ : Rho} {k : Rho → Out} : Out.fo (.cont ρ) k = k ρ := nr rfl
@[simp] theorem fo_brk {ρ : Rho} {k : Rho → Out} : Out.fo (.brk ρ) k = .next ρ := nr rfl
@[simp] theorem fo_ret {p : PV} {k : Rho → Out} : Out.fo (.ret p) k = .ret p := nr rfl
@[simp] theorem fo_exc {c : Str} {ρ : Rho} {k : Rho → Out} : Out.fo (.exc c ρ) k = .exc c ρ := nr rfl
@[simp] theorem forL_nil {tgt : PV → Rho → Option Rho} {body : Rho → Out} {ρ : Rho} : forL tgt body [] ρ = .next ρ := nr rfl
def onR (o : Option Rho) (k : Rho → Out) : Out := match o with
  | some ρ => k ρ
  | none => .stuck
@[simp] theorem onR_some {ρ : Rho} {k : Rho → Out} : onR (some ρ) k = k ρ := nr rfl
theorem forL_cons {tgt : PV → Rho → Option Rho} {body : Rho → Out} {p : PV} {ps : List PV} {ρ : Rho} : forL tgt body (p :: ps) ρ = onR (tgt p ρ) fun ρ1 => Out.fo (body ρ1) (forL tgt body ps) := by
  show (match tgt p ρ with | none => Out.stuck | some ρ1 => match body ρ1 with | .next ρ' => forL tgt body ps ρ' | .cont ρ' => forL tgt body ps ρ' | .brk ρ' => .next ρ' | o => o) = _
  unfold onR Out.fo
  cases tgt p ρ with
  | none => rfl
  | some ρ1 => cases body ρ1 <;> rfl
theorem sIx_none (n k : Nat) : HT.sIx n k none = k := rfl
theorem cut_drop {α : Type} (l : List α) (k : Int) (h : 0 ≤ k) : cutG l (some k) none = l.drop k.toNat := by
  unfold cutG
  have e : HT.sIx l.length 0 (some k) = min k.toNat l.length := by
    unfold HT.sIx; dsimp only; rw [if_neg (by omega)]
  rw [e, sIx_none]
  rw [List.take_of_length_le (by rw [List.length_drop]; omega)]
  by_cases h2 : k.toNat ≤ l.length
  · rw [Nat.min_eq_left h2]
  · rw [Nat.min_eq_right (by omega), List.drop_eq_nil_of_le (Nat.le_refl _), List.drop_eq_nil_of_le (by omega)]
theorem cut_take {α : Type} (l : List α) (k : Int) (h : 0 ≤ k) : cutG l none (some k) = l.take k.toNat := by
  unfold cutG
  have e : HT.sIx l.length l.length (some k) = min k.toNat l.length := by
    unfold HT.sIx; dsimp only; rw [if_neg (by omega)]
  rw [e, sIx_none, List.drop_zero, Nat.sub_zero]
  by_cases h2 : k.toNat ≤ l.length
  · rw [Nat.min_eq_left h2]
  · rw [Nat.min_eq_right (by omega), List.take_of_length_le (Nat.le_refl _), List.take_of_length_le (by omega)]
theorem cut_both {α : Type} (l : List α) (j k : Int) (h : 0 ≤ j) (hk : j ≤ k) : cutG l (some j) (some k) = (l.drop j.toNat).take (k.toNat - j.toNat) := by
  unfold cutG
  have e : HT.sIx l.length l.length (some k) = min k.toNat l.length := by
    unfold HT.sIx; dsimp only; rw [if_neg (by omega)]
  have e2 : HT.sIx l.length 0 (some j) = min j.toNat l.length := by
    unfold HT.sIx; dsimp only; rw [if_neg (by omega)]
  rw [e, e2]
  by_cases h2 : j.toNat ≤ l.length
  · rw [Nat.min_eq_left h2]
    by_cases h3 : k.toNat ≤ l.length
    · rw [Nat.min_eq_left h3]
    · rw [Nat.min_eq_right (by omega), List.take_of_length_le (by rw [List.length_drop]; omega), List.take_of_length_le (by rw [List.length_drop]; omega)]
  · rw [Nat.min_eq_right (by omega : l.length ≤ j.toNat), List.drop_eq_nil_of_le (Nat.le_refl _), List.drop_eq_nil_of_le (by omega), List.take_nil, List.take_nil]
@[simp] theorem eSl_eq {g : PV → Option Int → Option Int → R PV} {f : Rho → R PV} {lo hi : Rho → R (Option Int)} {ρ : Rho} : eSl g f lo hi ρ = (f ρ).bind fun p => (lo ρ).bind fun l => (hi ρ).bind fun h => g p l h := nr rfl
@[simp] theorem oNone_eq {ρ : Rho} : oNone ρ = .ok none := nr rfl
@[simp] theorem oSome_eq {f : Rho → R PV} {ρ : Rho} : oSome f ρ = (f ρ).bind fun p => (asI p).bind fun i => .ok (some i) := nr rfl
@[simp] theorem slP_l {l : List PV} {lo hi : Option Int} : slP (.lst l) lo hi = .ok (.lst (cutG l lo hi)) := nr rfl
@[simp] theorem slP_f {l : List PV} {lo hi : Option Int} : slP (.frz l) lo hi = .ok (.lst (cutG l lo hi)) := nr rfl
@[simp] theorem slP_t {l : List PV} {lo hi : Option Int} : slP (.tup l) lo hi = .ok (.tup (cutG l lo hi)) := nr rfl
@[simp] theorem slL_l {l : List PV} {lo hi : Option Int} : slL (.lst l) lo hi = .ok (.lst (cutG l lo hi)) := nr rfl
@[simp] theorem tupleP_l {l : List PV} : tupleP [.lst l] = .ok (.tup l) := nr rfl
@[simp] theorem tupleP_t {l : List PV} : tupleP [.tup l] = .ok (.tup l) := nr rfl
@[simp] theorem tupleP_f {l : List PV} : tupleP [.frz l] = .ok (.tup l) := nr rfl
@[simp] theorem listP_l {l : List PV} : listP [.lst l] = .ok (.lst l) := nr rfl
@[simp] theorem listP_t {l : List PV} : listP [.tup l] = .ok (.lst l) := nr rfl
theorem addL_ok {a b : List PV} (h : a.length + b.length ≤ 1000000) : addL (.lst a) (.lst b) = .ok (.lst (a ++ b)) := by
  unfold addL; dsimp only; rw [if_pos (size_ok h)]
def figOk (p : Int) : PV → Bool
  | .int n => decide (0 ≤ n) && decide (n < p)
  | _ => false
theorem figs_map (p : Int) (l : List PV) (x s : PV) : lcGo (gN 2) cYes (eAn (eD F_is_whole (aCons (eV 2) aNil)) (eChain leP ltP (eC (.int 0)) (eVo 2) (eVo 0))) [.val (.int p), .val x, .un] l = .ok ((l.map (figOk p)).map PV.bl) := by
  rw [List.map_map]
  refine lcGo_map (fun q => PV.bl (figOk p q)) l fun q hq => ⟨_, rfl, ?_⟩
  cases q with
  | int n =>
    by_cases h : 0 ≤ n <;> simp [f_is_whole, figOk, h]
  | _ => simp [f_is_whole, figOk, isW]
theorem all_map (p : Int) (l : List PV) : (l.map (figOk p)).all id = l.all (figOk p) := by rw [List.all_map]; rfl
theorem f_are_l (p : Int) (l : List PV) (h : l.length ≤ 1000000) : F_are_figures [.int p, .lst l] = .ok (.bl (l.all (figOk p))) := by
  show (D_are_figures [.val (.int p), .val (.lst l), .un]).res = _
  have e := eLc_ok (vs := [2]) (it := iS (eV 1)) (ρ := [.val (.int p), .val (.lst l), .un]) rfl (by simp) h (figs_map p l (.lst l) .non)
  simp only [D_are_figures, bSeq_eq, sIf_eq, tNt_eq, tB1_eq, e1_eq, eVos, eVo0, bind1, isi_lt, isL, Bool.true_or, asB_eq, Bool.not_true, stB_ok, bNil_eq, if_neg Bool.false_ne_true, then_next, sRet_eq, eD_eq, aCons_eq, aNil_eq, e, allP_bl, all_map, st_ok, then_ret, res_ret]
theorem f_are_t (p : Int) (l : List PV) (h : l.length ≤ 1000000) : F_are_figures [.int p, .tup l] = .ok (.bl (l.all (figOk p))) := by
  show (D_are_figures [.val (.int p), .val (.tup l), .un]).res = _
  have e := eLc_ok (vs := [2]) (it := iS (eV 1)) (ρ := [.val (.int p), .val (.tup l), .un]) rfl (by simp) h (figs_map p l (.tup l) .non)
  simp only [D_are_figures, bSeq_eq, sIf_eq, tNt_eq, tB1_eq, e1_eq, eVos, eVo0, bind1, isi_lt, isL, isT, Bool.or_true, asB_eq, Bool.not_true, stB_ok, bNil_eq, if_neg Bool.false_ne_true, then_next, sRet_eq, eD_eq, aCons_eq, aNil_eq, e, allP_bl, all_map, st_ok, then_ret, res_ret]
theorem figs_all (p : Int) (ds : List Int) (h : ∀ d ∈ ds, 0 ≤ d ∧ d < p) : (ds.map PV.int).all (figOk p) = true := by
  rw [List.all_map, List.all_eq_true]
  intro d hd
  simp [figOk, h d hd]
def leftV (p e : Int) (ds : List Int) : PV := .tup [.int p, .int e, .tup (ds.map PV.int)]
def lead (ds : List Int) : Nat := (ds.takeWhile (· == 0)).length
def strip (ds : List Int) : List Int := ds.dropWhile (· == 0)
theorem strip_drop (ds : List Int) : ds.drop (lead ds) = strip ds := by
  unfold lead strip
  induction ds with
  | nil => rfl
  | cons d ds ih =>
    by_cases h : d = 0
    · subst h; simp [ih]
    · have : (d == 0) = false := by simpa using h
      simp [this]
theorem lead_le (ds : List Int) : lead ds ≤ ds.length := by
  unfold lead
  induction ds with
  | nil => simp
  | cons d ds ih => by_cases h : d = 0 <;> simp_all
theorem lead_zero (ds : List Int) : ∀ k, k < lead ds → ds.getD k 0 = 0 := by
  unfold lead
  induction ds with
  | nil => intro k h; simp at h
  | cons d ds ih =>
    intro k h
    by_cases hd : d = 0
    · subst hd
      cases k with
      | zero => rfl
      | succ k =>
        have := ih k (by simpa using h)
        simpa using this
    · have : (d == 0) = false := by simpa using hd
      simp [this] at h
theorem lead_ne (ds : List Int) (h : lead ds < ds.length) : ds.getD (lead ds) 0 ≠ 0 := by
  unfold lead at *
  induction ds with
  | nil => simp at h
  | cons d ds ih =>
    by_cases hd : d = 0
    · subst hd
      have := ih (by simpa using h)
      simpa using this
    · have h2 : (d == 0) = false := by simpa using hd
      simpa [h2] using hd
theorem strip_head (ds : List Int) : ∀ d r, strip ds = d :: r → d ≠ 0 := by
  unfold strip
  induction ds with
  | nil => intro d r h; simp at h
  | cons x xs ih =>
    intro d r h
    by_cases hx : x = 0
    · subst hx; exact ih d r (by simpa using h)
    · have h2 : (x == 0) = false := by simpa using hx
      simp [h2] at h
      rw [← h.1]; exact hx
theorem strip_mem (ds : List Int) : ∀ d ∈ strip ds, d ∈ ds := fun d h => (List.dropWhile_sublist _).subset h
theorem strip_len (ds : List Int) : (strip ds).length = ds.length - lead ds := by rw [← strip_drop, List.length_drop]
/-- the items of a written list or tuple of numbers -/
def SeqI (x : PV) (ds : List Int) : Prop := x = .lst (ds.map PV.int) ∨ x = .tup (ds.map PV.int)
theorem SeqI.ix {x : PV} {ds : List Int} (h : SeqI x ds) (k : Nat) (hk : k < ds.length) : ixP x (.int k) = .ok (.int (ds.getD k 0)) := by
  rcases h with rfl | rfl
  · exact ixP_lst (by omega) (getD_map ds _ (by omega))
  · exact ixP_tup (by omega) (getD_map ds _ (by omega))
theorem SeqI.len {x : PV} {ds : List Int} (h : SeqI x ds) : lenP [x] = .ok (.int ds.length) := by
  rcases h with rfl | rfl <;> simp
theorem SeqI.are {x : PV} {ds : List Int} (h : SeqI x ds) (p : Int) (hz : ds.length ≤ 1000000) (hd : ∀ d ∈ ds, 0 ≤ d ∧ d < p) : F_are_figures [.int p, x] = .ok (.bl true) := by
  rcases h with rfl | rfl
  · rw [f_are_l p _ (by simpa using hz), figs_all p ds hd]
  · rw [f_are_t p _ (by simpa using hz), figs_all p ds hd]
theorem SeqI.tail {x : PV} {ds : List Int} (h : SeqI x ds) (k : Nat) : ((slP x (some k) none).bind fun y => tupleP [y]) = .ok (.tup ((ds.drop k).map PV.int)) := by
  rcases h with rfl | rfl <;> simp [cut_drop]
theorem lead_run (p e : Int) (x : PV) (ds : List Int) (h : SeqI x ds) : ∀ (j k : Nat), k + j = lead ds →
    sWh (tAn (tB1 (e2 ltP (eVo 3) (eD lenP (aCons (eVo 2) aNil)))) (tB1 (e2 eqP (e2 ixP (eVo 2) (eVo 3)) (eC (.int 0))))) (bSeq (sAug 3 (intP (fun _ _ => true) fun a b => .int (a + b)) (eC (.int 1))) bNil) [.val (.int p), .val (.int e), .val x, .val (.int k)] = .next [.val (.int p), .val (.int e), .val x, .val (.int (lead ds))] := by
  intro j
  have hl := lead_le ds
  induction j with
  | zero =>
    intro k hk
    have hk' : k = lead ds := by omega
    subst hk'
    rw [sWh_eq]
    by_cases h2 : lead ds < ds.length
    · have e1 := h.ix _ h2
      have e2 : (ds.getD (lead ds) 0 == 0) = false := by simpa using lead_ne ds h2
      simp [h.len, h2, e1, -List.getD_eq_getElem?_getD, e2]
    · simp [h.len, h2]
  | succ j ih =>
    intro k hk
    rw [sWh_eq]
    have h2 : k < ds.length := by omega
    have e1 := h.ix _ h2
    rw [lead_zero ds k (by omega)] at e1
    have ih' := ih (k + 1) (by omega)
    simp [h.len, h2, e1]
    exact ih'
theorem f_left (p e : Int) (x : PV) (ds : List Int) (hp : p ∈ primesL) (h : SeqI x ds) (hz : ds.length ≤ 1000000) (hd : ∀ d ∈ ds, 0 ≤ d ∧ d < p) : F_left_number [.int p, .int e, x] = .ok (leftV p (e + lead ds) (strip ds)) := by
  show (D_left_number [.val (.int p), .val (.int e), .val x, .un]).res = _
  have hp' : isP (.int p) = true := by simp [isP, hp]
  have r := lead_run p e x ds h (lead ds) 0 (by omega)
  rw [show ((0 : Nat) : Int) = 0 from rfl] at r
  have t := h.tail (lead ds)
  rw [strip_drop] at t
  rcases h with rfl | rfl
  · simp only [slP_l, bind1] at t
    simp [D_left_number, f_is_prime, hp', f_is_whole, SeqI.are (.inl rfl) p hz hd, r, leftV, t]
  · simp only [slP_t, bind1] at t
    simp [D_left_number, f_is_prime, hp', f_is_whole, SeqI.are (.inr rfl) p hz hd, r, leftV, t]
theorem f_end (p e : Int) (ds : List Int) : F_end_of [leftV p e ds] = .ok (.int (e + ds.length)) := by
  show (D_end_of [.val (leftV p e ds)]).res = _
  simp [D_end_of, leftV]
theorem f_known (p e : Int) (ds : List Int) : F_known_of [leftV p e ds] = .ok (.int ds.length) := by
  show (D_known_of [.val (leftV p e ds)]).res = _
  simp [D_known_of, leftV]
@[simp] theorem eqP_tt0 : eqP (.tup []) (.tup []) = .ok (.bl true) := by rw [eqP_ok (by simp) (by simp)]; simp
theorem f_is_left_good (p e : Int) (ds : List Int) (hp : p ∈ primesL) (hz : ds.length ≤ 1000000) (hd : ∀ d ∈ ds, 0 ≤ d ∧ d < p) : F_is_left [leftV p e ds] = .ok (.bl (decide (ds.head? ≠ some 0))) := by
  show (D_is_left [.val (leftV p e ds)]).res = _
  have hp' : isP (.int p) = true := by simp [isP, hp]
  have ha := SeqI.are (x := .tup (ds.map PV.int)) (.inr rfl) p hz hd
  cases ds with
  | nil =>
    simp only [List.map_nil] at ha
    simp [D_is_left, leftV, f_is_prime, hp', f_is_whole, isi_tuple, isT, ha]
  | cons d ds =>
    simp only [List.map_cons] at ha
    have e1 : eqP (.tup (PV.int d :: ds.map PV.int)) (.tup []) = .ok (.bl false) := by
      rw [eqP_ok (by simp) (by simp)]; simp
    simp [D_is_left, leftV, f_is_prime, hp', f_is_whole, isi_tuple, isT, ha, e1]
    by_cases h : d = 0 <;> simp [h]
end PM
set_option Elab.async false
set_option linter.all false
set_option maxRecDepth 100000
set_option autoImplicit false
namespace PM
open PySem PySem.Spec L2 PL
open PyProof.Rows hiding St
@[simp] theorem sPar_eq {i j : Nat} {f g : Rho → R PV} {ρ : Rho} : sPar i j (aCons f (aCons g aNil)) ρ = (f ρ).st ρ fun p => (g ρ).st ρ fun q => .next ((ρ.set i (.val p)).set j (.val q)) := by
  unfold sPar aCons R.st
  cases f ρ with
  | exc c => rfl
  | stuck => rfl
  | ok p => cases g ρ <;> rfl
@[simp] theorem absP_i {a : Int} : absP [.int a] = .ok (.int a.natAbs) := by
  have e : absP [.int a] = .ok (.int (if a < 0 then -a else a)) := rfl
  rw [e]
  congr 2
  split <;> omega
/-- Euclid's loop, on whichever test of the other one -/
theorem gcd_run (test : Rho → R Bool) (ht : ∀ x y : Nat, test [.val (.int x), .val (.int y)] = .ok (decide (y ≠ 0))) : ∀ (y x : Nat),
    sWh test (bSeq (sPar 0 1 (aCons (eV 1) (aCons (e2 modP (eVo 0) (eVo 1)) aNil))) bNil) [.val (.int x), .val (.int y)] = .next [.val (.int (Nat.gcd x y)), .val (.int 0)] := by
  intro y
  induction y using Nat.strongRecOn with
  | _ y ih =>
    intro x
    rw [sWh_eq, ht]
    by_cases h : y = 0
    · subst h; simp
    · have hy : (0 : Int) < y := by omega
      have i := ih (x % y) (Nat.mod_lt x (by omega)) y
      have e : ((x : Int) % (y : Int)) = ((x % y : Nat) : Int) := by omega
      have g : Nat.gcd y (x % y) = Nat.gcd x y := by rw [Nat.gcd_comm x y, Nat.gcd_rec y x, Nat.gcd_comm (x % y) y]
      rw [g, ← e] at i
      simp [h, modP_pos hy, i]
theorem f_divisor (a b : Int) : F_divisor [.int a, .int b] = .ok (.int (Int.gcd a b)) := by
  show (D_divisor [.val (.int a), .val (.int b)]).res = _
  have r := gcd_run (tB1 (e2 gtP (eVo 1) (eC (.int 0)))) (fun x y => by
    have q : decide ((0 : Int) < (y : Int)) = decide (y ≠ 0) := by rw [decide_eq_decide]; omega
    simp only [tB1_eq, e2_eq, eVos, eVo0, eC_eq, bind1, gtP_ii, asB_eq, q]) b.natAbs a.natAbs
  simp only [D_divisor, bSeq_eq, sSet_eq, eD_eq, aCons_eq, aNil_eq, eVo0, eVos, bind1, absP_i, st_ok, then_next, List.set_cons_succ, List.set_cons_zero, r, sRet_eq, eV0, then_ret, res_ret]
  rfl
/-- the sign and the share -/
def fs (t b : Int) : Int := if b < 0 then -(Int.gcd t b : Int) else (Int.gcd t b : Int)
def ftop (t b : Int) : Int := t / fs t b
def fbot (t b : Int) : Int := b / fs t b
def fracV (t b : Int) : PV := .tup [.int t, .int b]
theorem gcd_pos {t b : Int} (hb : b ≠ 0) : 0 < Int.gcd t b := Int.gcd_pos_of_ne_zero_right t hb
theorem fs_dvd_t (t b : Int) : fs t b ∣ t := by
  unfold fs
  split
  · exact Int.neg_dvd.mpr (Int.gcd_dvd_left t b)
  · exact Int.gcd_dvd_left t b
theorem fs_dvd_b (t b : Int) : fs t b ∣ b := by
  unfold fs
  split
  · exact Int.neg_dvd.mpr (Int.gcd_dvd_right t b)
  · exact Int.gcd_dvd_right t b
theorem fs_ne {t b : Int} (hb : b ≠ 0) : fs t b ≠ 0 := by
  have := gcd_pos (t := t) hb
  unfold fs
  split <;> omega
theorem ftop_mul (t b : Int) : ftop t b * fs t b = t := Int.ediv_mul_cancel (fs_dvd_t t b)
theorem fbot_mul (t b : Int) : fbot t b * fs t b = b := Int.ediv_mul_cancel (fs_dvd_b t b)
theorem fbot_pos {t b : Int} (hb : b ≠ 0) : 0 < fbot t b := by
  have h := fbot_mul t b
  have hg := gcd_pos (t := t) hb
  rcases Int.lt_trichotomy (fbot t b) 0 with n | z | p
  · exfalso
    unfold fs at h
    split at h
    · have := Int.mul_pos_of_neg_of_neg n (show -(Int.gcd t b : Int) < 0 by omega)
      omega
    · have := Int.mul_neg_of_neg_of_pos n (show (0 : Int) < (Int.gcd t b : Int) by omega)
      omega
  · rw [z, Int.zero_mul] at h; exact absurd h.symm hb
  · exact p
theorem fcross (t b : Int) : ftop t b * b = t * fbot t b := by
  have h1 := ftop_mul t b
  have h2 := fbot_mul t b
  calc ftop t b * b = ftop t b * (fbot t b * fs t b) := by rw [h2]
    _ = (ftop t b * fs t b) * fbot t b := by rw [Int.mul_comm (fbot t b), Int.mul_assoc]
    _ = t * fbot t b := by rw [h1]
theorem flow {t b : Int} (hb : b ≠ 0) : Int.gcd (ftop t b) (fbot t b) = 1 := by
  have h1 := ftop_mul t b
  have h2 := fbot_mul t b
  have hg := gcd_pos (t := t) hb
  have e : Int.gcd (ftop t b * fs t b) (fbot t b * fs t b) = Int.gcd (ftop t b) (fbot t b) * (fs t b).natAbs := Int.gcd_mul_right ..
  rw [h1, h2] at e
  have e2 : (fs t b).natAbs = Int.gcd t b := by unfold fs; split <;> omega
  rw [e2] at e
  have : 1 * Int.gcd t b = Int.gcd (ftop t b) (fbot t b) * Int.gcd t b := by rw [Nat.one_mul]; exact e
  exact (Nat.eq_of_mul_eq_mul_right hg this).symm
theorem f_fraction (t b : Int) (hb : b ≠ 0) (hz : b.natAbs < 2 ^ 8000) : F_fraction [.int t, .int b] = .ok (fracV (ftop t b) (fbot t b)) := by
  refine (runF_eq (n := 3) (u := D_fraction)).trans ?_
  show (D_fraction [.val (.int t), .val (.int b), .un]).res = _
  have hg := gcd_pos (t := t) hb
  have hle : Int.gcd t b ≤ b.natAbs := Nat.le_of_dvd (by omega) (Int.gcd_dvd_natAbs_right t b)
  have hb' : (b == 0) = false := by simpa using hb
  have hzs : (fs t b).natAbs < 2 ^ 9000 := by
    have : (2 : Nat) ^ 8000 ≤ 2 ^ 9000 := Nat.pow_le_pow_right (by omega) (by omega)
    unfold fs; split <;> omega
  have d1 : fdivP (.int t) (.int (fs t b)) = .ok (.int (ftop t b)) := by
    rw [fdivP_ii (fs_ne hb) hzs, Int.fdiv_eq_ediv_of_dvd (fs_dvd_t t b)]; rfl
  have d2 : fdivP (.int b) (.int (fs t b)) = .ok (.int (fbot t b)) := by
    rw [fdivP_ii (fs_ne hb) hzs, Int.fdiv_eq_ediv_of_dvd (fs_dvd_b t b)]; rfl
  by_cases h : b < 0
  · have e : fs t b = -(Int.gcd t b : Int) := by unfold fs; rw [if_pos h]
    rw [e] at d1 d2
    simp [D_fraction, f_is_whole, hb', f_divisor, h, d1, d2, fracV]
  · have e : fs t b = (Int.gcd t b : Int) := by unfold fs; rw [if_neg h]
    rw [e] at d1 d2
    simp [D_fraction, f_is_whole, hb', f_divisor, h, d1, d2, fracV]
/-- sizes -/
theorem mul_sz {a b : Int} (ha : a.natAbs < 2 ^ 3900) (hb : b.natAbs < 2 ^ 3900) : mulP (.int a) (.int b) = .ok (.int (a * b)) := mulP_ii (okMul_of ha hb (by omega) (by omega) (by omega))
theorem mul_lt {a b : Int} {m n : Nat} (ha : a.natAbs < 2 ^ m) (hb : b.natAbs < 2 ^ n) {k : Nat} (hk : m + n ≤ k) : (a * b).natAbs < 2 ^ k := Nat.lt_of_lt_of_le (mul_bound ha hb) (Nat.pow_le_pow_right (by omega) hk)
theorem sz_le {a : Int} {m k : Nat} (ha : a.natAbs < 2 ^ m) (hk : m ≤ k) : a.natAbs < 2 ^ k := Nat.lt_of_lt_of_le ha (Nat.pow_le_pow_right (by omega) hk)
theorem add_lt {a b : Int} {m n k : Nat} (ha : a.natAbs < 2 ^ m) (hb : b.natAbs < 2 ^ n) (h1 : m + 1 ≤ k) (h2 : n + 1 ≤ k) : (a + b).natAbs < 2 ^ k := by
  have e1 : (2 : Nat) ^ (m + 1) ≤ 2 ^ k := Nat.pow_le_pow_right (by omega) h1
  have e2 : (2 : Nat) ^ (n + 1) ≤ 2 ^ k := Nat.pow_le_pow_right (by omega) h2
  rw [Nat.pow_succ] at e1 e2
  omega
theorem sub_lt {a b : Int} {m n k : Nat} (ha : a.natAbs < 2 ^ m) (hb : b.natAbs < 2 ^ n) (h1 : m + 1 ≤ k) (h2 : n + 1 ≤ k) : (a - b).natAbs < 2 ^ k := by
  have e1 : (2 : Nat) ^ (m + 1) ≤ 2 ^ k := Nat.pow_le_pow_right (by omega) h1
  have e2 : (2 : Nat) ^ (n + 1) ≤ 2 ^ k := Nat.pow_le_pow_right (by omega) h2
  rw [Nat.pow_succ] at e1 e2
  omega
theorem mul_ne {b d : Int} (hb : b ≠ 0) (hd : d ≠ 0) : b * d ≠ 0 := Int.mul_ne_zero hb hd
section
variable {a b c d : Int} (ha : a.natAbs < 2 ^ 3900) (hb : b.natAbs < 2 ^ 3900) (hc : c.natAbs < 2 ^ 3900) (hd : d.natAbs < 2 ^ 3900)
include ha hb hc hd
theorem f_plus (nb : b ≠ 0) (nd : d ≠ 0) : F_plus_fraction [fracV a b, fracV c d] = .ok (fracV (ftop (a * d + c * b) (b * d)) (fbot (a * d + c * b) (b * d))) := by
  refine (runF_eq (n := 2) (u := D_plus_fraction)).trans ?_
  show (D_plus_fraction [.val (fracV a b), .val (fracV c d)]).res = _
  have f := f_fraction (a * d + c * b) (b * d) (mul_ne nb nd) (mul_lt hb hd (by omega))
  simp [D_plus_fraction, fracV, mul_sz ha hd, mul_sz hc hb, mul_sz hb hd] at f ⊢
  simp [f]
theorem f_minus (nb : b ≠ 0) (nd : d ≠ 0) : F_minus_fraction [fracV a b, fracV c d] = .ok (fracV (ftop (a * d - c * b) (b * d)) (fbot (a * d - c * b) (b * d))) := by
  refine (runF_eq (n := 2) (u := D_minus_fraction)).trans ?_
  show (D_minus_fraction [.val (fracV a b), .val (fracV c d)]).res = _
  have f := f_fraction (a * d - c * b) (b * d) (mul_ne nb nd) (mul_lt hb hd (by omega))
  simp [D_minus_fraction, fracV, mul_sz ha hd, mul_sz hc hb, mul_sz hb hd] at f ⊢
  simp [f]
theorem f_times (nb : b ≠ 0) (nd : d ≠ 0) : F_times_fraction [fracV a b, fracV c d] = .ok (fracV (ftop (a * c) (b * d)) (fbot (a * c) (b * d))) := by
  refine (runF_eq (n := 2) (u := D_times_fraction)).trans ?_
  show (D_times_fraction [.val (fracV a b), .val (fracV c d)]).res = _
  have f := f_fraction (a * c) (b * d) (mul_ne nb nd) (mul_lt hb hd (by omega))
  simp [D_times_fraction, fracV, mul_sz ha hc, mul_sz hb hd] at f ⊢
  simp [f]
theorem f_over (nb : b ≠ 0) (nc : c ≠ 0) : F_over_fraction [fracV a b, fracV c d] = .ok (fracV (ftop (a * d) (b * c)) (fbot (a * d) (b * c))) := by
  refine (runF_eq (n := 2) (u := D_over_fraction)).trans ?_
  show (D_over_fraction [.val (fracV a b), .val (fracV c d)]).res = _
  have f := f_fraction (a * d) (b * c) (mul_ne nb nc) (mul_lt hb hc (by omega))
  simp [D_over_fraction, fracV, mul_sz ha hd, mul_sz hb hc] at f ⊢
  simp [f]
end
theorem val_ex (p : Int) (hp : 2 ≤ p) : ∀ (k : Nat) (n : Int), n.natAbs ≤ k → n ≠ 0 → ∃ (m : Int) (v : Nat), n = m * p ^ v ∧ m % p ≠ 0 := by
  intro k
  induction k with
  | zero => intro n h h0; omega
  | succ k ih =>
    intro n h h0
    by_cases hd : n % p = 0
    · have e : n / p * p = n := Int.ediv_mul_cancel (Int.dvd_of_emod_eq_zero hd)
      have hn : n / p ≠ 0 := fun z => by rw [z, Int.zero_mul] at e; exact h0 e.symm
      have hlt : (n / p).natAbs < n.natAbs := by
        have : n.natAbs = (n / p).natAbs * p.natAbs := by rw [← Int.natAbs_mul, e]
        have h1 : 0 < (n / p).natAbs := by omega
        have h2 : 2 ≤ p.natAbs := by omega
        have := Nat.mul_le_mul_left (n / p).natAbs h2
        omega
      obtain ⟨m, v, e2, hm⟩ := ih (n / p) (by omega) hn
      refine ⟨m, v + 1, ?_, hm⟩
      rw [Int.pow_succ, ← Int.mul_assoc, ← e2, e]
    · exact ⟨n, 0, by simp, hd⟩
/-- how often p divides n -/
noncomputable def vp (p n : Int) : Int := if h : 2 ≤ p ∧ n ≠ 0 then ((val_ex p h.1 n.natAbs n (Nat.le_refl _) h.2).choose_spec.choose : Nat) else 0
theorem vp_spec {p n : Int} (hp : 2 ≤ p) (hn : n ≠ 0) : ∃ (m : Int) (v : Nat), n = m * p ^ v ∧ m % p ≠ 0 ∧ vp p n = v := by
  have h : 2 ≤ p ∧ n ≠ 0 := ⟨hp, hn⟩
  have s := (val_ex p h.1 n.natAbs n (Nat.le_refl _) h.2).choose_spec.choose_spec
  exact ⟨_, _, s.1, s.2, by unfold vp; rw [dif_pos h]⟩
theorem vp_uniq {p m n : Int} {u v : Nat} (hp : 2 ≤ p) (e : m * p ^ u = n * p ^ v) (hm : m % p ≠ 0) (hn : n % p ≠ 0) : u = v := by
  have key : ∀ {m n : Int} {u v : Nat}, m * p ^ u = n * p ^ v → m % p ≠ 0 → n % p ≠ 0 → u ≤ v := fun {m n u v} e hm hn => by
    refine Nat.le_of_not_lt fun h => hn ?_
    obtain ⟨k, rfl⟩ : ∃ k, u = v + (k + 1) := ⟨u - v - 1, by omega⟩
    rw [Int.pow_add, Int.mul_comm (p ^ v), ← Int.mul_assoc] at e
    have hpv : p ^ v ≠ 0 := Int.pow_ne_zero (by omega)
    have e2 := Int.eq_of_mul_eq_mul_right hpv e
    rw [← e2, Int.pow_succ, ← Int.mul_assoc]
    exact Int.mul_emod_left _ _
  exact Nat.le_antisymm (key e hm hn) (key e.symm hn hm)
end PM
namespace PM
theorem ftop_le {t b : Int} (hb : b ≠ 0) : (ftop t b).natAbs ≤ t.natAbs := by
  have h := congrArg Int.natAbs (ftop_mul t b)
  rw [Int.natAbs_mul] at h
  have : 1 ≤ (fs t b).natAbs := by have := fs_ne (t := t) hb; omega
  calc (ftop t b).natAbs = (ftop t b).natAbs * 1 := (Nat.mul_one _).symm
    _ ≤ (ftop t b).natAbs * (fs t b).natAbs := Nat.mul_le_mul_left _ this
    _ = t.natAbs := h
theorem fbot_le {t b : Int} (hb : b ≠ 0) : (fbot t b).natAbs ≤ b.natAbs := by
  have h := congrArg Int.natAbs (fbot_mul t b)
  rw [Int.natAbs_mul] at h
  have : 1 ≤ (fs t b).natAbs := by have := fs_ne (t := t) hb; omega
  calc (fbot t b).natAbs = (fbot t b).natAbs * 1 := (Nat.mul_one _).symm
    _ ≤ (fbot t b).natAbs * (fs t b).natAbs := Nat.mul_le_mul_left _ this
    _ = b.natAbs := h
end PM
namespace PM
open PySem PySem.Spec L2 PL
open PyProof.Rows hiding St
theorem stp {i : Nat} {f : Rho → R PV} {k : Rho → Out} {ρ : Rho} (p : PV) {r : R PV} (h : f ρ = .ok p) (g : (k (ρ.set i (.val p))).res = r) : (bSeq (sSet i f) k ρ).res = r := by
  rw [bSeq_eq, sSet_eq, h, st_ok, then_next]; exact g
theorem skp {t : Rho → R Bool} {u k : Rho → Out} {ρ : Rho} {r : R PV} (h : t ρ = .ok false) (g : (k ρ).res = r) : (bSeq (sIf t u bNil) k ρ).res = r := by
  rw [bSeq_eq, sIf_eq, h, stB_ok, if_neg Bool.false_ne_true, bNil_eq, then_next]; exact g
theorem ifT {t : Rho → R Bool} {u v k : Rho → Out} {ρ : Rho} {r : R PV} (h : t ρ = .ok true) (g : (bSeq u k ρ).res = r) : (bSeq (sIf t u v) k ρ).res = r := by
  rw [bSeq_eq, sIf_eq, h, stB_ok, if_pos rfl]; exact g
theorem ifF {t : Rho → R Bool} {u v k : Rho → Out} {ρ : Rho} {r : R PV} (h : t ρ = .ok false) (g : (bSeq v k ρ).res = r) : (bSeq (sIf t u v) k ρ).res = r := by
  rw [bSeq_eq, sIf_eq, h, stB_ok, if_neg Bool.false_ne_true]; exact g
end PM
namespace PM
open PySem PySem.Spec L2 PL
open PyProof.Rows hiding St
@[simp] theorem isX0 {a : Addr} {b : Bool} {ρ : Rho} : isX 0 a b (.ex a :: ρ) = .ok (.bl b) := by
  have e : isX 0 a b (.ex a :: ρ) = (if a = a then .ok (.bl b) else .stuck) := rfl
  rw [e, if_pos rfl]
@[simp] theorem isXs {i : Nat} {a : Addr} {b : Bool} {s : Slot} {ρ : Rho} : isX (i + 1) a b (s :: ρ) = isX i a b ρ := by simp [isX]
@[simp] theorem hotCs {i : Nat} {a : Addr} {F : Addr → R PV} {s : Slot} {ρ : Rho} : hotC (i + 1) a F (s :: ρ) = hotC i a F ρ := by simp [hotC]
@[simp] theorem behind_next {i : Nat} {ρ : Rho} : behindX i (.next ρ) = .next (ρ.set i .un) := nr rfl
@[simp] theorem behind_ret {i : Nat} {p : PV} : behindX i (.ret p) = .ret p := nr rfl
/-- a fraction, told of any thing -/
def lowB : PV → Bool
  | .tup [.int a, .int b] => decide (0 < b) && (Int.gcd a b == 1)
  | _ => false
theorem low_cases {P : PV → Prop} (h1 : ∀ x, isT x = false → P x) (h2 : ∀ l : List PV, l.length ≠ 2 → P (.tup l)) (h3 : ∀ p q, isW p = false → P (.tup [p, q])) (h4 : ∀ p q, isW p = true → isW q = false → P (.tup [p, q])) (h5 : ∀ a b, P (.tup [.int a, .int b])) (x : PV) : P x := by
  cases x with
  | tup l =>
    match l with
    | [] => exact h2 _ (by simp)
    | [_] => exact h2 _ (by simp)
    | _ :: _ :: _ :: _ => exact h2 _ (by simp)
    | [p, q] =>
      cases p with
      | int a => cases q with
        | int b => exact h5 a b
        | _ => exact h4 _ _ rfl rfl
      | _ => exact h3 _ _ rfl
  | _ => exact h1 _ rfl
theorem lowB_no (x : PV) (h : isT x = false) : lowB x = false := by
  cases x with
  | tup l => cases h
  | _ => rfl
theorem lowB_len (l : List PV) (h : l.length ≠ 2) : lowB (.tup l) = false := by
  match l with
  | [] => rfl
  | [p] => cases p <;> rfl
  | p :: q :: _ :: _ => cases p with
    | int a => cases q <;> rfl
    | _ => rfl
  | [_, _] => exact absurd rfl h
theorem lowB_p (p q : PV) (h : isW p = false) : lowB (.tup [p, q]) = false := by
  cases p with
  | int a => cases h
  | _ => rfl
theorem lowB_q (p q : PV) (h : isW q = false) : lowB (.tup [p, q]) = false := by
  cases p with
  | int a => cases q with
    | int b => cases h
    | _ => rfl
  | _ => rfl
theorem f_is_fraction (x : PV) : F_is_fraction [x] = .ok (.bl (lowB x)) := by
  refine (runF_eq (n := 1) (u := D_is_fraction)).trans ?_
  show (D_is_fraction [.val x]).res = _
  refine low_cases (P := fun x => (D_is_fraction [.val x]).res = .ok (.bl (lowB x))) (fun x h => ?_) (fun l h => ?_) (fun p q h => ?_) (fun p q h0 h => ?_) (fun a b => ?_) x
  · simp [D_is_fraction, isi_tuple, h, lowB_no x h]
  · have e : ((l.length : Int) == 2) = false := by rw [beq_eq_false_iff_ne]; omega
    simp [D_is_fraction, isi_tuple, isT, e, lowB_len l h]
  · simp [D_is_fraction, isi_tuple, isT, f_is_whole, h, lowB_p p q h]
  · simp [D_is_fraction, isi_tuple, isT, f_is_whole, h0, h, lowB_q p q h]
  · have e : (((Int.gcd a b : Nat) : Int) == 1) = (Int.gcd a b == 1) := by rw [Bool.eq_iff_iff, beq_iff_eq, beq_iff_eq]; omega
    by_cases hb : 0 < b <;> simp [D_is_fraction, isi_tuple, isT, f_is_whole, f_divisor, hb, lowB, e]
end PM
set_option Elab.async false
set_option linter.all false
set_option maxRecDepth 100000
set_option autoImplicit false
set_option exponentiation.threshold 20000
namespace PM
open PySem PySem.Spec L2 PL
open PyProof.Rows hiding St
def Dg (p : Int) (ds : List Int) : Prop := ∀ d ∈ ds, 0 ≤ d ∧ d < p
def U (p : Int) : List Int → Int
  | [] => 0
  | d :: r => U p r * p + d
theorem Dg.tail {p d : Int} {r : List Int} (h : Dg p (d :: r)) : Dg p r := fun x hx => h x (List.mem_cons_of_mem _ hx)
theorem U_nonneg {p : Int} (hp : 2 ≤ p) : ∀ {ds : List Int}, Dg p ds → 0 ≤ U p ds ∧ U p ds < p ^ ds.length
  | [], _ => by simp [U]
  | d :: r, h => by
    obtain ⟨h1, h2⟩ := U_nonneg hp h.tail
    obtain ⟨h3, h4⟩ := h d List.mem_cons_self
    rw [List.length_cons, Int.pow_succ]
    unfold U
    have h5 : 0 ≤ U p r * p := Int.mul_nonneg h1 (by omega)
    have h6 : (U p r + 1) * p ≤ p ^ r.length * p := Int.mul_le_mul_of_nonneg_right (by omega) (by omega)
    rw [Int.add_mul] at h6
    omega
theorem pow_sz {p : Int} (hp : 2 ≤ p) (hp2 : p ≤ 97) (n : Nat) : (p ^ n).natAbs < 2 ^ (7 * n + 1) := pow_bound (m := 7) (by omega) n
theorem lt_sz {x : Int} {n : Nat} {p : Int} (hp : 2 ≤ p) (hp2 : p ≤ 97) (h0 : 0 ≤ x) (h : x < p ^ n) : x.natAbs < 2 ^ (7 * n + 1) := by
  have := pow_sz hp hp2 n
  omega
theorem unit_run (p : Int) (hp : 2 ≤ p) (hp2 : p ≤ 97) (x : PV) (hx : ixP x (.int 0) = .ok (.int p)) : ∀ (l : List Int) (acc : Int) (s : Slot) (j : Nat), Dg p l → 0 ≤ acc → acc < p ^ j → j + l.length ≤ 2000 →
    ∃ s', forL (gN 2) (bSeq (sSet 1 (e2 addP (e2 mulP (eVo 1) (e2 ixP (eVo 0) (eC (.int 0)))) (eVo 2))) bNil) (l.map PV.int) [.val x, .val (.int acc), s] = .next [.val x, .val (.int (l.foldl (fun a d => a * p + d) acc)), s'] := by
  intro l
  induction l with
  | nil => intro acc s j _ _ _ _; exact ⟨s, rfl⟩
  | cons d r ih =>
    intro acc s j hd h0 h1 hl
    rw [List.length_cons] at hl
    obtain ⟨h3, h4⟩ := hd d List.mem_cons_self
    have m : mulP (.int acc) (.int p) = .ok (.int (acc * p)) := mulP_ii (okMul_of (m := 7 * j + 1) (n := 7) (lt_sz hp hp2 h0 h1) (by omega) (by omega) (by omega) (by omega))
    have h5 : 0 ≤ acc * p := Int.mul_nonneg h0 (by omega)
    have h6 : (acc + 1) * p ≤ p ^ j * p := Int.mul_le_mul_of_nonneg_right (by omega) (by omega)
    rw [Int.add_mul] at h6
    obtain ⟨s', e⟩ := ih (acc * p + d) (.val (.int d)) (j + 1) hd.tail (by omega) (by rw [Int.pow_succ]; omega) (by omega)
    refine ⟨s', ?_⟩
    rw [List.map_cons, forL_cons]
    simp [hx, m, e]
theorem foldl_U (p : Int) (ds : List Int) : ds.reverse.foldl (fun a d => a * p + d) 0 = U p ds := by
  rw [List.foldl_reverse]
  induction ds with
  | nil => rfl
  | cons d r ih => rw [List.foldr_cons, ih]; rfl
theorem f_unit (p e : Int) (ds : List Int) (hp : 2 ≤ p) (hp2 : p ≤ 97) (hd : Dg p ds) (hl : ds.length ≤ 1900) : F_unit_of [leftV p e ds] = .ok (.int (U p ds)) := by
  refine (runF_eq (n := 3) (u := D_unit_of)).trans ?_
  show (D_unit_of [.val (leftV p e ds), .un, .un]).res = _
  obtain ⟨s', r⟩ := unit_run p hp hp2 (leftV p e ds) (by simp [leftV]) ds.reverse 0 .un 0 (fun d h => hd d (List.mem_reverse.mp h)) (by omega) (by simp) (by simp; omega)
  rw [foldl_U, List.map_reverse] at r
  have e2 : ixP (leftV p e ds) (.int 2) = .ok (.tup (ds.map PV.int)) := by simp [leftV]
  simp [D_unit_of, e2, r]
def digs (p : Int) : Int → Nat → List Int
  | _, 0 => []
  | n, k + 1 => (n % p) :: digs p (n / p) k
theorem digs_len (p : Int) : ∀ (k : Nat) (n : Int), (digs p n k).length = k
  | 0, _ => rfl
  | k + 1, n => by unfold digs; rw [List.length_cons, digs_len p k]
theorem digs_Dg {p : Int} (hp : 2 ≤ p) : ∀ (k : Nat) (n : Int), Dg p (digs p n k)
  | 0, _ => fun _ h => nomatch h
  | k + 1, n => fun d h => by
    unfold digs at h
    rcases List.mem_cons.mp h with rfl | h
    · exact ⟨Int.emod_nonneg _ (by omega), Int.emod_lt_of_pos _ (by omega)⟩
    · exact digs_Dg hp k _ d h
theorem U_digs {p : Int} (hp : 2 ≤ p) : ∀ (k : Nat) (n : Int), U p (digs p n k) = n % p ^ k
  | 0, n => by simp [digs, U]
  | k + 1, n => by
    unfold digs U
    rw [U_digs hp k]
    have h1 : n % p + p * (n / p) = n := by have := Int.mul_ediv_add_emod n p; omega
    have h2 : n / p % p ^ k + p ^ k * (n / p / p ^ k) = n / p := by have := Int.mul_ediv_add_emod (n / p) (p ^ k); omega
    have hpk : 0 < p ^ k := Int.pow_pos (by omega)
    have b1 := Int.emod_nonneg n (show p ≠ 0 by omega)
    have b2 := Int.emod_lt_of_pos n (show 0 < p by omega)
    have b3 := Int.emod_nonneg (n / p) (show p ^ k ≠ 0 by omega)
    have b4 := Int.emod_lt_of_pos (n / p) hpk
    obtain ⟨q, hq⟩ : ∃ q, q = n / p / p ^ k := ⟨_, rfl⟩
    obtain ⟨r, hr⟩ : ∃ r, r = n / p % p ^ k := ⟨_, rfl⟩
    rw [← hq, ← hr] at h2
    rw [← hr] at b3 b4 ⊢
    have e : n = (r * p + n % p) + p ^ (k + 1) * q := by
      rw [Int.pow_succ]
      have : p * (n / p) = p * r + p ^ k * p * q := by
        rw [← h2, Int.mul_add, ← Int.mul_assoc, Int.mul_comm p (p ^ k)]
      rw [Int.mul_comm r p]
      omega
    have b5 : 0 ≤ r * p := Int.mul_nonneg b3 (by omega)
    have b6 : (r + 1) * p ≤ p ^ k * p := Int.mul_le_mul_of_nonneg_right (by omega) (by omega)
    have ps : p ^ (k + 1) = p ^ k * p := Int.pow_succ p k
    rw [Int.add_mul, ← ps] at b6
    conv => rhs; rw [e, Int.add_mul_emod_self_left]
    exact (Int.emod_eq_of_lt (by omega) (by omega)).symm
theorem digs_U {p : Int} (hp : 2 ≤ p) : ∀ (ds : List Int) (x : Int), Dg p ds → digs p (U p ds + p ^ ds.length * x) ds.length = ds
  | [], _, _ => rfl
  | d :: r, x, h => by
    obtain ⟨h3, h4⟩ := h d List.mem_cons_self
    rw [List.length_cons]
    unfold digs U
    have e : U p r * p + d + p ^ (r.length + 1) * x = d + p * (U p r + p ^ r.length * x) := by
      rw [Int.pow_succ, Int.mul_add, Int.mul_comm p (U p r), ← Int.mul_assoc, Int.mul_comm p (p ^ r.length)]
      omega
    rw [e, Int.add_mul_emod_self_left, Int.emod_eq_of_lt h3 h4, Int.add_mul_ediv_left _ _ (by omega), Int.ediv_eq_zero_of_lt h3 h4, Int.zero_add, digs_U hp r x h.tail]
theorem whole_run (p : Int) (hp : 2 ≤ p) (hp2 : p ≤ 97) (a1 a3 : PV) : ∀ (items : List PV) (n : Int) (figs : List Int) (s5 s6 : Slot), figs.length + items.length ≤ 5000 →
    ∃ n' s5' s6', forL (gN 5) (bSeq (sTo (gT (gsCons (gN 2) (gsCons (gN 6) gsNil))) (eD divmodP (aCons (eVo 2) (aCons (eVo 0) aNil)))) (bSeq (sMut 4 appP (eV 6)) bNil)) items [.val (.int p), .val a1, .val (.int n), .val a3, .own (figs.map PV.int), s5, s6] = .next [.val (.int p), .val a1, .val (.int n'), .val a3, .own ((figs ++ digs p n items.length).map PV.int), s5', s6'] := by
  intro items
  induction items with
  | nil => intro n figs s5 s6 _; exact ⟨n, s5, s6, by simp [digs]⟩
  | cons q qs ih =>
    intro n figs s5 s6 hl
    rw [List.length_cons] at hl
    have dm := divmodP_pos (a := n) (b := p) (by omega) (by omega)
    obtain ⟨n', s5', s6', e⟩ := ih (n / p) (figs ++ [n % p]) (.val q) (.val (.int (n % p))) (by rw [List.length_append, List.length_singleton]; omega)
    refine ⟨n', s5', s6', ?_⟩
    have ap : appP (figs.map PV.int) (.int (n % p)) = .ok ((figs ++ [n % p]).map PV.int) := by rw [appP_ok (by rw [List.length_map]; omega), List.map_append]; rfl
    rw [forL_cons, List.length_cons]
    simp only [gN_eq, onR_some, List.set_cons_succ, List.set_cons_zero, bSeq_eq, sTo_eq, eD_eq, aCons_eq, aNil_eq, eVo0, eVos, bind1, dm, st_ok, gT_eq, gsCons_eq, gsNil_eq, Option.bind_some, then_next, sMut_eq, getOwn0, getOwnS, onOwn_some, eV0, eVs, ap, own_ok, bNil_eq, fo_next, e]
    rw [show digs p n (qs.length + 1) = (n % p) :: digs p (n / p) qs.length from rfl, List.append_assoc, List.singleton_append]
theorem f_of_whole (p e n : Int) (k : Nat) (hp : p ∈ primesL) (hk : k ≤ 5000) : F_of_whole [.int p, .int e, .int n, .int k] = .ok (leftV p (e + lead (digs p n k)) (strip (digs p n k))) := by
  refine (runF_eq (n := 7) (u := D_of_whole)).trans ?_
  show (D_of_whole [.val (.int p), .val (.int e), .val (.int n), .val (.int k), .un, .un, .un]).res = _
  have hpb := primesL_le p hp
  have hr : rng1 [.int (k : Int)] = .ok (rngL 0 k) := by rw [rng1_sm (by omega) (by omega)]; rfl
  obtain ⟨n', s5, s6, r⟩ := whole_run p hpb.1 hpb.2 (.int e) (.int k) (rngL 0 k) n [] .un .un (by rw [rngL_len]; simp; omega)
  rw [rngL_len, List.nil_append] at r
  have l := f_left p e (.lst ((digs p n k).map PV.int)) (digs p n k) hp (.inl rfl) (by rw [digs_len]; omega) (digs_Dg hpb.1 k n)
  simp only [List.map_nil] at r
  simp [D_of_whole, hr, r, l]
theorem head_lead {ds : List Int} (h : ds.head? ≠ some 0) : lead ds = 0 ∧ strip ds = ds := by
  cases ds with
  | nil => exact ⟨rfl, rfl⟩
  | cons d r =>
    have hd : (d == 0) = false := by simpa using h
    constructor
    · unfold lead; simp [hd]
    · unfold strip; simp [hd]
theorem strip_head' (ds : List Int) : (strip ds).head? ≠ some 0 := by
  cases h : strip ds with
  | nil => simp
  | cons d r =>
    have := strip_head ds d r h
    simpa using this
theorem strip_Dg {p : Int} {ds : List Int} (h : Dg p ds) : Dg p (strip ds) := fun d hd => h d (strip_mem ds d hd)
/-- a left number in its form -/
structure Lf (p : Int) (ds : List Int) (n : Nat) : Prop where
  pr : p ∈ primesL
  dg : Dg p ds
  hd : ds.head? ≠ some 0
  len : ds.length ≤ n
theorem Lf.b {p : Int} {ds : List Int} {n : Nat} (h : Lf p ds n) : 2 ≤ p ∧ p ≤ 97 := primesL_le p h.pr
theorem lf_strip {p : Int} {ds : List Int} {n : Nat} (hp : p ∈ primesL) (hd : Dg p ds) (hl : ds.length ≤ n) : Lf p (strip ds) n := ⟨hp, strip_Dg hd, strip_head' ds, by rw [strip_len]; omega⟩
theorem f_want (p e q f : Int) (ds es : List Int) : F_want_alike [leftV p e ds, leftV q f es] = if p = q then .ok .non else .exc "Unlike" := by
  refine (runF_eq (n := 2) (u := D_want_alike)).trans ?_
  show (D_want_alike [.val (leftV p e ds), .val (leftV q f es)]).res = _
  by_cases h : p = q
  · subst h; simp [D_want_alike, leftV]
  · have h' : (p == q) = false := by simpa using h
    simp [D_want_alike, leftV, h', h]
theorem f_cut (p e t : Int) (ds : List Int) (n : Nat) (h : Lf p ds n) (hn : n ≤ 5000) : ∃ e' ds', F_cut_at [leftV p e ds, .int t] = .ok (leftV p e' ds') ∧ Lf p ds' n ∧ e' + ds'.length = min t (e + ds.length) := by
  have go : ∀ {th : PV}, (D_cut_at [.val (leftV p e ds), .val (.int t)]).res = .ok th → F_cut_at [leftV p e ds, .int t] = .ok th := fun h => (runF_eq (n := 2) (u := D_cut_at)).trans h
  have fe := f_end p e ds
  have x0 : ixP (leftV p e ds) (.int 0) = .ok (.int p) := by simp [leftV]
  have x1 : ixP (leftV p e ds) (.int 1) = .ok (.int e) := by simp [leftV]
  have x2 : ixP (leftV p e ds) (.int 2) = .ok (.tup (ds.map PV.int)) := by simp [leftV]
  by_cases h1 : e + ds.length ≤ t
  · refine ⟨e, ds, go ?_, h, by omega⟩
    simp [D_cut_at, fe, h1]
  · by_cases h2 : t ≤ e
    · have l := f_left p t (.tup []) [] h.pr (.inr rfl) (by simp) (fun _ z => nomatch z)
      refine ⟨t, [], go ?_, ⟨h.pr, (fun _ z => nomatch z), by simp, by simp⟩, by simp; omega⟩
      simp [D_cut_at, fe, h1, x0, x1, h2, l, lead, strip]
    · have hd : Dg p (ds.take (t - e).toNat) := fun d z => h.dg d ((List.take_sublist _ _).subset z)
      have hh : (ds.take (t - e).toNat).head? ≠ some 0 := by
        cases ds with
        | nil => simp
        | cons d r =>
          have : 0 < (t - e).toNat := by omega
          obtain ⟨k, hk⟩ : ∃ k, (t - e).toNat = k + 1 := ⟨(t - e).toNat - 1, by omega⟩
          rw [hk]; exact h.hd
      have l := f_left p e (.tup ((ds.take (t - e).toNat).map PV.int)) _ h.pr (.inr rfl) (by have := List.length_take_le (t - e).toNat ds; have := h.len; have := List.length_take (i := (t - e).toNat) (l := ds); omega) hd
      rw [(head_lead hh).1, (head_lead hh).2] at l
      refine ⟨e, ds.take (t - e).toNat, go ?_, ⟨h.pr, hd, hh, by have := h.len; have := List.length_take (i := (t - e).toNat) (l := ds); omega⟩, by rw [List.length_take]; omega⟩
      have c := cut_take (ds.map PV.int) (t - e) (by omega)
      rw [← List.map_take] at c
      simp [D_cut_at, fe, h1, x0, x1, x2, h2, c] at l ⊢
      simp [l]
theorem minP_ok (a b : Int) : minP [.int a, .int b] = .ok (.int (min a b)) := by
  have e : minP [.int a, .int b] = .ok (.int (if b < a then b else a)) := rfl
  rw [e]; congr 2; split <;> omega
/-- what the sum comes to -/
theorem f_sum (p e f : Int) (ds es : List Int) (n : Nat) (h1 : Lf p ds n) (h2 : Lf p es n) (hn : n ≤ 1900) :
    ∃ ea da eb db, Lf p da n ∧ Lf p db n ∧ ea + da.length = min (e + ds.length) (f + es.length) ∧ eb + db.length = min (e + ds.length) (f + es.length) ∧
      F_cut_at [leftV p e ds, .int (min (e + ds.length) (f + es.length))] = .ok (leftV p ea da) ∧ F_cut_at [leftV p f es, .int (min (e + ds.length) (f + es.length))] = .ok (leftV p eb db) ∧
      F_plus [leftV p e ds, leftV p f es] = .ok (leftV p (min ea eb + lead (digs p (U p da * p ^ (ea - min ea eb).toNat + U p db * p ^ (eb - min ea eb).toNat) (min (e + ds.length) (f + es.length) - min ea eb).toNat))
        (strip (digs p (U p da * p ^ (ea - min ea eb).toNat + U p db * p ^ (eb - min ea eb).toNat) (min (e + ds.length) (f + es.length) - min ea eb).toNat))) := by
  obtain ⟨la, hla⟩ : ∃ l, l = min (e + (ds.length : Int)) (f + (es.length : Int)) := ⟨_, rfl⟩
  obtain ⟨ea, da, c1, La, ra⟩ := f_cut p e la ds n h1 (by omega)
  obtain ⟨eb, db, c2, Lb, rb⟩ := f_cut p f la es n h2 (by omega)
  have ra' : ea + da.length = la := by rw [ra, hla]; omega
  have rb' : eb + db.length = la := by rw [rb, hla]; omega
  have hpb := h1.b
  have za := La.len
  have zb := Lb.len
  rw [← hla]
  refine ⟨ea, da, eb, db, La, Lb, ra', rb', c1, c2, ?_⟩
  refine (runF_eq (n := 7) (u := D_plus)).trans ?_
  show (D_plus [.val (leftV p e ds), .val (leftV p f es), .un, .un, .un, .un, .un]).res = _
  have w := f_want p e p f ds es
  rw [if_pos rfl] at w
  have f1 := f_end p e ds
  have f2 := f_end p f es
  have x0 : ixP (leftV p e ds) (.int 0) = .ok (.int p) := by simp [leftV]
  have xa : ixP (leftV p ea da) (.int 1) = .ok (.int ea) := by simp [leftV]
  have xb : ixP (leftV p eb db) (.int 1) = .ok (.int eb) := by simp [leftV]
  have ua := f_unit p ea da hpb.1 hpb.2 La.dg (by omega)
  have ub := f_unit p eb db hpb.1 hpb.2 Lb.dg (by omega)
  obtain ⟨le, hle⟩ : ∃ l, l = min ea eb := ⟨_, rfl⟩
  rw [← hle]
  have pa := f_power_of p (ea - le) (by omega) (by omega) (by omega)
  have pb := f_power_of p (eb - le) (by omega) (by omega) (by omega)
  have na := U_nonneg hpb.1 La.dg
  have nb := U_nonneg hpb.1 Lb.dg
  have ma : mulP (.int (U p da)) (.int (p ^ (ea - le).toNat)) = .ok (.int (U p da * p ^ (ea - le).toNat)) := mulP_ii (okMul_of (lt_sz hpb.1 hpb.2 na.1 na.2) (pow_sz hpb.1 hpb.2 _) (by omega) (by omega) (by omega))
  have mb : mulP (.int (U p db)) (.int (p ^ (eb - le).toNat)) = .ok (.int (U p db * p ^ (eb - le).toNat)) := mulP_ii (okMul_of (lt_sz hpb.1 hpb.2 nb.1 nb.2) (pow_sz hpb.1 hpb.2 _) (by omega) (by omega) (by omega))
  have ow := f_of_whole p le (U p da * p ^ (ea - le).toNat + U p db * p ^ (eb - le).toNat) (la - le).toNat h1.pr (by omega)
  rw [show (((la - le).toNat : Nat) : Int) = la - le by omega] at ow
  have m1 : minP [.int (e + ds.length), .int (f + es.length)] = .ok (.int la) := by rw [minP_ok, ← hla]
  have m2 : minP [.int ea, .int eb] = .ok (.int le) := by rw [minP_ok, ← hle]
  simp [D_plus, w, f1, f2, m1, c1, c2, x0, xa, xb, m2, ua, ub, pa, pb, ma, mb, ow]
theorem f_opposite (p e : Int) (ds : List Int) (n : Nat) (h : Lf p ds n) (hn : n ≤ 1900) : F_opposite [leftV p e ds] = .ok (leftV p (e + lead (digs p (-U p ds) ds.length)) (strip (digs p (-U p ds) ds.length))) := by
  refine (runF_eq (n := 1) (u := D_opposite)).trans ?_
  show (D_opposite [.val (leftV p e ds)]).res = _
  have hl := h.len
  have u := f_unit p e ds h.b.1 h.b.2 h.dg (by omega)
  have k := f_known p e ds
  have ow := f_of_whole p e (-U p ds) ds.length h.pr (by omega)
  have x0 : ixP (leftV p e ds) (.int 0) = .ok (.int p) := by simp [leftV]
  have x1 : ixP (leftV p e ds) (.int 1) = .ok (.int e) := by simp [leftV]
  simp [D_opposite, x0, x1, u, k, ow]
theorem f_mult (p e f : Int) (ds es : List Int) (n : Nat) (h1 : Lf p ds n) (h2 : Lf p es n) (hn : n ≤ 1900) : F_multiplied [leftV p e ds, leftV p f es] = .ok (leftV p (e + f + lead (digs p (U p ds * U p es) (min ds.length es.length))) (strip (digs p (U p ds * U p es) (min ds.length es.length)))) := by
  refine (runF_eq (n := 3) (u := D_multiplied)).trans ?_
  show (D_multiplied [.val (leftV p e ds), .val (leftV p f es), .un]).res = _
  have hpb := h1.b
  have z1 := h1.len
  have z2 := h2.len
  have w := f_want p e p f ds es
  rw [if_pos rfl] at w
  have u1 := f_unit p e ds hpb.1 hpb.2 h1.dg (by omega)
  have u2 := f_unit p f es hpb.1 hpb.2 h2.dg (by omega)
  have k1 := f_known p e ds
  have k2 := f_known p f es
  have n1 := U_nonneg hpb.1 h1.dg
  have n2 := U_nonneg hpb.1 h2.dg
  have x0 : ixP (leftV p e ds) (.int 0) = .ok (.int p) := by simp [leftV]
  have x1 : ixP (leftV p e ds) (.int 1) = .ok (.int e) := by simp [leftV]
  have x2 : ixP (leftV p f es) (.int 1) = .ok (.int f) := by simp [leftV]
  have mm : mulP (.int (U p ds)) (.int (U p es)) = .ok (.int (U p ds * U p es)) := mulP_ii (okMul_of (lt_sz hpb.1 hpb.2 n1.1 n1.2) (lt_sz hpb.1 hpb.2 n2.1 n2.2) (by omega) (by omega) (by omega))
  have ow := f_of_whole p (e + f) (U p ds * U p es) (min ds.length es.length) h1.pr (by omega)
  have m1 : minP [.int (ds.length : Int), .int (es.length : Int)] = .ok (.int ((min ds.length es.length : Nat) : Int)) := by rw [minP_ok, show min (ds.length : Int) (es.length : Int) = ((min ds.length es.length : Nat) : Int) by omega]
  simp only [D_multiplied, bSeq_eq, sDrop_eq, sSet_eq, sRet_eq, eD_eq, aCons_eq, aNil_eq, eV0, eVs, eVo0, eVos, e2_eq, eC_eq, bind1, w, st_ok, then_next, List.set_cons_succ, List.set_cons_zero, k1, k2, m1, x0, x1, x2, addP_ii, u1, u2, mm, ow, then_ret, res_ret]
end PM
namespace PM
open PL
end PM
namespace PM
open PySem PySem.Spec L2 PL
open PyProof.Rows hiding St
theorem map_int_inj : ∀ {a b : List Int}, a.map PV.int = b.map PV.int → a = b
  | [], [], _ => rfl
  | [], _ :: _, h => by cases h
  | _ :: _, [], h => by cases h
  | x :: xs, y :: ys, h => by
    rw [List.map_cons, List.map_cons] at h
    injection h with h1 h2
    injection h1 with h1
    rw [h1, map_int_inj h2]
theorem leftV_inj {p e q f : Int} {ds es : List Int} (h : leftV p e ds = leftV q f es) : e = f ∧ ds = es := by
  unfold leftV at h
  injection h with h
  injection h with _ h
  injection h with h1 h
  injection h with h2 _
  injection h1 with h1
  injection h2 with h2
  exact ⟨h1, map_int_inj h2⟩
theorem f_cut2 (p e t : Int) (ds : List Int) (n : Nat) (h : Lf p ds n) (hn : n ≤ 5000) (ht : t ≤ e + ds.length) : F_cut_at [leftV p e ds, .int t] = .ok (leftV p (min e t) (ds.take (t - e).toNat)) := by
  refine (runF_eq (n := 2) (u := D_cut_at)).trans ?_
  show (D_cut_at [.val (leftV p e ds), .val (.int t)]).res = _
  have fe := f_end p e ds
  have x0 : ixP (leftV p e ds) (.int 0) = .ok (.int p) := by simp [leftV]
  have x1 : ixP (leftV p e ds) (.int 1) = .ok (.int e) := by simp [leftV]
  have x2 : ixP (leftV p e ds) (.int 2) = .ok (.tup (ds.map PV.int)) := by simp [leftV]
  by_cases h1 : e + ds.length ≤ t
  · have e1 : min e t = e := by omega
    have e2 : ds.take (t - e).toNat = ds := List.take_of_length_le (by omega)
    rw [e1, e2]
    simp [D_cut_at, fe, h1]
  · by_cases h2 : t ≤ e
    · have l := f_left p t (.tup []) [] h.pr (.inr rfl) (by simp) (fun _ z => nomatch z)
      have e1 : min e t = t := by omega
      have e2 : (t - e).toNat = 0 := by omega
      rw [e1, e2, List.take_zero]
      simp [D_cut_at, fe, h1, x0, x1, h2, l, lead, strip]
    · have hd : Dg p (ds.take (t - e).toNat) := fun d z => h.dg d ((List.take_sublist _ _).subset z)
      have hh : (ds.take (t - e).toNat).head? ≠ some 0 := by
        cases ds with
        | nil => simp
        | cons d r =>
          obtain ⟨k, hk⟩ : ∃ k, (t - e).toNat = k + 1 := ⟨(t - e).toNat - 1, by omega⟩
          rw [hk]; exact h.hd
      have l := f_left p e (.tup ((ds.take (t - e).toNat).map PV.int)) _ h.pr (.inr rfl) (by have := h.len; have := List.length_take (i := (t - e).toNat) (l := ds); omega) hd
      rw [(head_lead hh).1, (head_lead hh).2] at l
      have e1 : min e t = e := by omega
      rw [e1]
      have c := cut_take (ds.map PV.int) (t - e) (by omega)
      rw [← List.map_take] at c
      simp [D_cut_at, fe, h1, x0, x1, x2, h2, c] at l ⊢
      simp [l]
/-- the sum, told outright -/
def sumN (p e f : Int) (ds es : List Int) (L B : Int) : Int := U p (ds.take (L - e).toNat) * p ^ (min e L - B).toNat + U p (es.take (L - f).toNat) * p ^ (min f L - B).toNat
theorem f_plus2 (p e f L B : Int) (ds es : List Int) (n : Nat) (h1 : Lf p ds n) (h2 : Lf p es n) (hn : n ≤ 1900) (hL : L = min (e + ds.length) (f + es.length)) (hB : B = min (min e L) (min f L)) :
    F_plus [leftV p e ds, leftV p f es] = .ok (leftV p (B + lead (digs p (sumN p e f ds es L B) (L - B).toNat)) (strip (digs p (sumN p e f ds es L B) (L - B).toNat))) := by
  obtain ⟨ea, da, eb, db, _, _, _, _, c1, c2, P⟩ := f_sum p e f ds es n h1 h2 hn
  rw [← hL] at c1 c2 P
  rw [f_cut2 p e L ds n h1 (by omega) (by omega)] at c1
  rw [f_cut2 p f L es n h2 (by omega) (by omega)] at c2
  injection c1 with c1
  injection c2 with c2
  obtain ⟨i1, i2⟩ := leftV_inj c1
  obtain ⟨i3, i4⟩ := leftV_inj c2
  subst i1 i2 i3 i4
  rw [P, ← hB]
  rfl
theorem U_cons (p d : Int) (r : List Int) : U p (d :: r) = U p r * p + d := rfl
theorem U_split (p : Int) : ∀ (n : Nat) (ds : List Int), U p ds = U p (ds.take n) + p ^ n * U p (ds.drop n)
  | 0, ds => by simp [U]
  | n + 1, [] => by simp [U]
  | n + 1, d :: r => by
    rw [List.take_succ_cons, List.drop_succ_cons]
    rw [U_cons, U_cons, U_split p n r, Int.pow_succ, Int.add_mul, Int.mul_assoc (p ^ n), Int.mul_assoc (p ^ n), Int.mul_comm p (U p (r.drop n))]
    omega
theorem U_strip (p : Int) : ∀ ds : List Int, U p ds = U p (strip ds) * p ^ lead ds
  | [] => by simp [U, strip]
  | d :: r => by
    by_cases h : d = 0
    · subst h
      have e1 : lead (0 :: r) = lead r + 1 := by unfold lead; simp
      have e2 : strip (0 :: r) = strip r := by unfold strip; simp
      rw [e1, e2]
      rw [U_cons, U_strip p r, Int.pow_succ, Int.add_zero, Int.mul_assoc]
    · have hl := head_lead (ds := d :: r) (by simpa using h)
      rw [hl.1, hl.2, Int.pow_zero, Int.mul_one]
end PM
namespace PM
open PySem PySem.Spec L2 PL
open PyProof.Rows hiding St
def opp (p : Int) (ds : List Int) : List Int := digs p (-U p ds) ds.length
theorem opp_len (p : Int) (ds : List Int) : (opp p ds).length = ds.length := digs_len ..
theorem opp_head {p : Int} {ds : List Int} {n : Nat} (h : Lf p ds n) : (opp p ds).head? ≠ some 0 := by
  have hpb := h.b
  cases ds with
  | nil => simp [opp, digs]
  | cons d r =>
    have hd : d ≠ 0 := by simpa using h.hd
    have b := h.dg d List.mem_cons_self
    have e : (-U p (d :: r)) % p ≠ 0 := fun z => by
      have z2 : U p (d :: r) % p = 0 := Int.emod_eq_zero_of_dvd (Int.dvd_neg.mp (Int.dvd_of_emod_eq_zero z))
      rw [U_cons, Int.add_comm, Int.add_mul_emod_self_right, Int.emod_eq_of_lt b.1 b.2] at z2
      exact hd z2
    show (digs p (-U p (d :: r)) (r.length + 1)).head? ≠ some 0
    rw [show digs p (-U p (d :: r)) (r.length + 1) = (-U p (d :: r)) % p :: digs p (-U p (d :: r) / p) r.length from rfl]
    simpa using e
theorem lf_opp {p : Int} {ds : List Int} {n : Nat} (h : Lf p ds n) : Lf p (opp p ds) n := ⟨h.pr, digs_Dg h.b.1 _ _, opp_head h, by rw [opp_len]; exact h.len⟩
theorem f_opposite2 (p e : Int) (ds : List Int) (n : Nat) (h : Lf p ds n) (hn : n ≤ 1900) : F_opposite [leftV p e ds] = .ok (leftV p e (opp p ds)) := by
  rw [f_opposite p e ds n h hn]
  have q := head_lead (opp_head h)
  unfold opp at q ⊢
  rw [q.1, q.2, Int.natCast_zero, Int.add_zero]
theorem U_opp {p : Int} (hp : 2 ≤ p) (ds : List Int) : U p (opp p ds) = (-U p ds) % p ^ ds.length := U_digs hp _ _
theorem digs_take (p : Int) : ∀ (j k : Nat) (n : Int), j ≤ k → (digs p n k).take j = digs p n j
  | 0, _, _, _ => by simp [digs]
  | j + 1, 0, _, h => by omega
  | j + 1, k + 1, n, h => by
    rw [show digs p n (k + 1) = n % p :: digs p (n / p) k from rfl, show digs p n (j + 1) = n % p :: digs p (n / p) j from rfl, List.take_succ_cons, digs_take p j k _ (by omega)]
theorem f_minus2 (p e f : Int) (ds es : List Int) (n : Nat) (h2 : Lf p es n) (hn : n ≤ 1900) {r : PV} (hr : F_plus [leftV p e ds, leftV p f (opp p es)] = .ok r) : F_minus [leftV p e ds, leftV p f es] = .ok r := by
  refine (runF_eq (n := 2) (u := D_minus)).trans ?_
  show (D_minus [.val (leftV p e ds), .val (leftV p f es)]).res = _
  simp [D_minus, f_opposite2 p f es n h2 hn, hr]
end PM
set_option Elab.async false
set_option linter.all false
set_option maxRecDepth 100000
set_option autoImplicit false
set_option exponentiation.threshold 20000
namespace PM
open PySem PySem.Spec L2 PL
open PyProof.Rows hiding St
/-- alike but for multiples -/
def Mo (m x y : Int) : Prop := ∃ z, x = y + m * z
theorem Mo.refl (m x : Int) : Mo m x x := ⟨0, by simp⟩
theorem Mo.of_eq {m x y : Int} (h : x = y) : Mo m x y := h ▸ Mo.refl m x
theorem Mo.symm {m x y : Int} (h : Mo m x y) : Mo m y x := by obtain ⟨z, h⟩ := h; exact ⟨-z, by grind⟩
theorem Mo.trans {m x y w : Int} (h : Mo m x y) (g : Mo m y w) : Mo m x w := by
  obtain ⟨z, h⟩ := h; obtain ⟨u, g⟩ := g; exact ⟨z + u, by grind⟩
theorem Mo.add {m x y u v : Int} (h : Mo m x y) (g : Mo m u v) : Mo m (x + u) (y + v) := by
  obtain ⟨z, h⟩ := h; obtain ⟨w, g⟩ := g; exact ⟨z + w, by grind⟩
theorem Mo.sub {m x y u v : Int} (h : Mo m x y) (g : Mo m u v) : Mo m (x - u) (y - v) := by
  obtain ⟨z, h⟩ := h; obtain ⟨w, g⟩ := g; exact ⟨z - w, by grind⟩
theorem Mo.mul {m x y u v : Int} (h : Mo m x y) (g : Mo m u v) : Mo m (x * u) (y * v) := by
  obtain ⟨z, h⟩ := h; obtain ⟨w, g⟩ := g; exact ⟨y * w + z * v + m * z * w, by subst h g; grind⟩
theorem Mo.dvd {m k x y : Int} (h : Mo (m * k) x y) : Mo m x y := by
  obtain ⟨z, h⟩ := h; exact ⟨k * z, by rw [h, Int.mul_assoc]⟩
theorem Mo.scale {m x y : Int} (k : Int) (h : Mo m x y) : Mo (m * k) (x * k) (y * k) := by
  obtain ⟨z, h⟩ := h; exact ⟨z, by subst h; grind⟩
theorem Mo.emod (m x : Int) : Mo m (x % m) x := ⟨-(x / m), by have := Int.mul_ediv_add_emod x m; grind⟩
theorem Mo.eq {m x y : Int} (h : Mo m x y) : x % m = y % m := by
  obtain ⟨z, h⟩ := h; rw [h, Int.add_mul_emod_self_left]
theorem Mo.of_emod {m x y : Int} (h : x % m = y % m) : Mo m x y := (Mo.emod m x).symm.trans (h ▸ Mo.emod m y)
theorem pow_split (p : Int) {a b : Nat} (h : a ≤ b) : p ^ b = p ^ a * p ^ (b - a) := by rw [← Int.pow_add]; congr 1; omega
theorem Mo.low {p x y : Int} {a b : Nat} (h : Mo (p ^ b) x y) (hab : a ≤ b) : Mo (p ^ a) x y := by
  rw [pow_split p hab] at h; exact h.dvd
/-- the figures' sum over a base -/
def V (p b e : Int) (ds : List Int) : Int := U p ds * p ^ (e - b).toNat
theorem V_self (p e : Int) (ds : List Int) : V p e e ds = U p ds := by unfold V; rw [Int.sub_self]; simp
theorem V_shift (p : Int) {b c e : Int} (ds : List Int) (h : b ≤ c) (h2 : c ≤ e) : V p b e ds = V p c e ds * p ^ (c - b).toNat := by
  unfold V; rw [Int.mul_assoc, ← Int.pow_add]; congr 2; omega
theorem U_head {p : Int} {ds : List Int} {n : Nat} (h : Lf p ds n) (hn : ds ≠ []) : U p ds % p ≠ 0 := by
  cases ds with
  | nil => exact absurd rfl hn
  | cons d r =>
    have hd : d ≠ 0 := by simpa using h.hd
    have b := h.dg d List.mem_cons_self
    rw [U_cons, Int.add_comm, Int.add_mul_emod_self_right, Int.emod_eq_of_lt b.1 b.2]
    exact hd
theorem digs_mo {p : Int} (hp : 2 ≤ p) : ∀ (k : Nat) {x y : Int}, Mo (p ^ k) x y → digs p x k = digs p y k
  | 0, _, _, _ => rfl
  | k + 1, x, y, h => by
    obtain ⟨z, h⟩ := h
    rw [Int.pow_succ] at h
    have e1 : x = y + p * (p ^ k * z) := by rw [h]; grind
    have e2 : x / p = y / p + p ^ k * z := by rw [e1, Int.add_mul_ediv_left _ _ (by omega)]
    rw [show digs p x (k + 1) = x % p :: digs p (x / p) k from rfl, show digs p y (k + 1) = y % p :: digs p (y / p) k from rfl, digs_mo hp k ⟨z, e2⟩, e1, Int.add_mul_emod_self_left]
theorem digs_self {p : Int} (hp : 2 ≤ p) (ds : List Int) (h : Dg p ds) : digs p (U p ds) ds.length = ds := by
  have := digs_U hp ds 0 h; rwa [Int.mul_zero, Int.add_zero] at this
/-- one goes on where the other ends -/
structure Ext (p e' : Int) (ds' : List Int) (e : Int) (ds : List Int) : Prop where
  le : e ≤ e'
  en : e + ds.length ≤ e' + ds'.length
  mo : Mo (p ^ ds.length) (V p e e' ds') (U p ds)
theorem Ext.refl (p e : Int) (ds : List Int) : Ext p e ds e ds := ⟨Int.le_refl _, Int.le_refl _, by rw [V_self]; exact Mo.refl _ _⟩
theorem Ext.form {p e' e : Int} {ds' ds : List Int} {n n' : Nat} (h : Ext p e' ds' e ds) (h1 : Lf p ds n) (h2 : Lf p ds' n') (hn : ds ≠ []) : e' = e ∧ ds'.take ds.length = ds := by
  have hp := h1.b.1
  have hl : 0 < ds.length := List.length_pos_iff.mpr hn
  have e1 : e' = e := by
    apply Int.le_antisymm _ h.le
    apply Int.not_lt.mp
    intro hlt
    obtain ⟨z, hz⟩ := h.mo
    obtain ⟨k, hk⟩ : ∃ k, (e' - e).toNat = k + 1 := ⟨(e' - e).toNat - 1, by omega⟩
    obtain ⟨j, hj⟩ : ∃ j, ds.length = j + 1 := ⟨ds.length - 1, by omega⟩
    unfold V at hz
    rw [hk, hj, Int.pow_succ, Int.pow_succ] at hz
    apply U_head h1 hn
    have : U p ds = p * (U p ds' * p ^ k - p ^ j * z) := by grind
    rw [this]; exact Int.mul_emod_right _ _
  subst e1
  refine ⟨rfl, ?_⟩
  have m := h.mo
  rw [V_self] at m
  have hle : ds.length ≤ ds'.length := by have := h.en; omega
  have t := digs_take p ds.length ds'.length (U p ds') hle
  rw [digs_self hp ds' h2.dg, digs_mo hp _ m, digs_self hp ds h1.dg] at t
  exact t
/-- by a lower base -/
theorem ext_of {p b g' g : Int} {D' D : List Int} {n n' : Nat} (h1 : Lf p D n) (h2 : Lf p D' n') (hb : b ≤ g) (hb' : b ≤ g') (he : g + D.length ≤ g' + D'.length) (hm : Mo (p ^ (g + D.length - b).toNat) (V p b g' D') (V p b g D)) : Ext p g' D' g D := by
  have hp := h1.b.1
  have le : g ≤ g' := by
    apply Int.not_lt.mp
    intro hlt
    have hn : D' ≠ [] := fun z => by subst z; simp at he; omega
    obtain ⟨z, hz⟩ := hm
    obtain ⟨k, hk⟩ : ∃ k, (g - b).toNat = (g' - b).toNat + (k + 1) := ⟨(g - b).toNat - (g' - b).toNat - 1, by omega⟩
    obtain ⟨j, hj⟩ : ∃ j, (g + D.length - b).toNat = (g' - b).toNat + (j + 1) := ⟨(g + D.length - b).toNat - (g' - b).toNat - 1, by omega⟩
    unfold V at hz
    rw [hk, hj, Int.pow_add p _ (k + 1), Int.pow_add p _ (j + 1), Int.pow_succ p k, Int.pow_succ p j] at hz
    have E0 : p ^ (g' - b).toNat ≠ 0 := Int.pow_ne_zero (by omega)
    have : U p D' * p ^ (g' - b).toNat = (p * (U p D * p ^ k + p ^ j * z)) * p ^ (g' - b).toNat := by grind
    have := Int.eq_of_mul_eq_mul_right E0 this
    apply U_head h2 hn
    rw [this]; exact Int.mul_emod_right _ _
  refine ⟨le, he, ?_⟩
  obtain ⟨z, hz⟩ := hm
  refine ⟨z, ?_⟩
  have E0 : p ^ (g - b).toNat ≠ 0 := Int.pow_ne_zero (by omega)
  rw [V_shift p D' hb le, V_shift p D hb (Int.le_refl g), V_self, show (g + D.length - b).toNat = D.length + (g - b).toNat by omega, Int.pow_add] at hz
  apply Int.eq_of_mul_eq_mul_right E0
  grind
theorem Ext.base {p e' e : Int} {ds' ds : List Int} (h : Ext p e' ds' e ds) {b : Int} (hb : b ≤ e) : Mo (p ^ (e + ds.length - b).toNat) (V p b e' ds') (V p b e ds) := by
  rw [V_shift p ds' hb h.le, V_shift p ds hb (Int.le_refl e), V_self, show (e + ds.length - b).toNat = ds.length + (e - b).toNat by omega, Int.pow_add]
  exact h.mo.scale _
end PM
namespace PM
open PySem PySem.Spec L2 PL
open PyProof.Rows hiding St
theorem cut_mo (p e L B : Int) (ds : List Int) (hB : B ≤ e) (hL : B ≤ L) : Mo (p ^ (L - B).toNat) (U p (ds.take (L - e).toNat) * p ^ (min e L - B).toNat) (V p B e ds) := by
  unfold V
  by_cases h : e ≤ L
  · rw [show min e L = e by omega, show (L - B).toNat = (L - e).toNat + (e - B).toNat by omega, Int.pow_add]
    have s := U_split p (L - e).toNat ds
    exact ⟨-U p (ds.drop (L - e).toNat), by grind⟩
  · rw [show (L - e).toNat = 0 by omega, List.take_zero, show (e - B).toNat = (L - B).toNat + (e - L).toNat by omega, Int.pow_add]
    exact ⟨-(U p ds * p ^ (e - L).toNat), by unfold U; grind⟩
theorem f_plus3 (p e f b : Int) (ds es : List Int) (n : Nat) (h1 : Lf p ds n) (h2 : Lf p es n) (hn : n ≤ 1900) (hb : b ≤ e) (hb2 : b ≤ f) :
    ∃ g D, F_plus [leftV p e ds, leftV p f es] = .ok (leftV p g D) ∧ Lf p D n ∧ min e f ≤ g ∧ g + D.length = min (e + ds.length) (f + es.length) ∧ Mo (p ^ (g + D.length - b).toNat) (V p b g D) (V p b e ds + V p b f es) := by
  have hpb := h1.b
  obtain ⟨L, hL⟩ : ∃ L, L = min (e + (ds.length : Int)) (f + (es.length : Int)) := ⟨_, rfl⟩
  obtain ⟨B, hB⟩ : ∃ B, B = min (min e L) (min f L) := ⟨_, rfl⟩
  have P := f_plus2 p e f L B ds es n h1 h2 hn hL hB
  have c1 := cut_mo p e L B ds (by omega) (by omega)
  have c2 := cut_mo p f L B es (by omega) (by omega)
  have c := c1.add c2
  rw [show U p (ds.take (L - e).toNat) * p ^ (min e L - B).toNat + U p (es.take (L - f).toNat) * p ^ (min f L - B).toNat = sumN p e f ds es L B from rfl] at c
  obtain ⟨D, hD⟩ : ∃ D, D = digs p (sumN p e f ds es L B) (L - B).toNat := ⟨_, rfl⟩
  rw [← hD] at P
  have l1 := h1.len
  have l2 := h2.len
  have lD : D.length = (L - B).toNat := by rw [hD]; exact digs_len ..
  have uD : U p D = sumN p e f ds es L B % p ^ (L - B).toNat := by rw [hD]; exact U_digs hpb.1 _ _
  have sl := strip_len D
  have ll := lead_le D
  have us := U_strip p D
  refine ⟨B + lead D, strip D, P, lf_strip h1.pr (by rw [hD]; exact digs_Dg hpb.1 _ _) (by omega), by omega, by omega, ?_⟩
  rw [show (B + lead D + (strip D).length - b).toNat = (L - B).toNat + (B - b).toNat by omega, Int.pow_add]
  rw [V_shift p (strip D) (show b ≤ B by omega) (show B ≤ B + (lead D : Int) by omega), V_shift p ds (show b ≤ B by omega) (by omega), V_shift p es (show b ≤ B by omega) (by omega), ← Int.add_mul]
  refine Mo.scale _ ?_
  unfold V at c ⊢
  rw [show (B + (lead D : Int) - B).toNat = lead D by omega, ← us, uD]
  exact (Mo.emod _ _).trans c
theorem prime_mul : ∀ p ∈ primesN, ∀ a : Nat, a < p → ∀ b : Nat, b < p → a ≠ 0 → b ≠ 0 → a * b % p ≠ 0 := by decide +kernel
theorem prime_mulI {p a b : Int} (hp : p ∈ primesL) (ha : a % p ≠ 0) (hb : b % p ≠ 0) : a * b % p ≠ 0 := by
  have hpb := primesL_le p hp
  rw [Int.mul_emod]
  have a1 := Int.emod_nonneg a (show p ≠ 0 by omega)
  have a2 := Int.emod_lt_of_pos a (show 0 < p by omega)
  have b1 := Int.emod_nonneg b (show p ≠ 0 by omega)
  have b2 := Int.emod_lt_of_pos b (show 0 < p by omega)
  have e2 : primesL = primesN.map fun (n : Nat) => (n : Int) := rfl
  rw [e2] at hp
  obtain ⟨n, hn, rfl⟩ := List.mem_map.mp hp
  obtain ⟨x, hx⟩ : ∃ x : Nat, a % (n : Int) = x := ⟨(a % (n : Int)).toNat, by omega⟩
  obtain ⟨y, hy⟩ : ∃ y : Nat, b % (n : Int) = y := ⟨(b % (n : Int)).toNat, by omega⟩
  rw [hx, hy]
  rw [hx] at ha a2
  rw [hy] at hb b2
  have := prime_mul n hn x (by omega) y (by omega) (by omega) (by omega)
  rw [← Int.natCast_mul, ← Int.natCast_emod]
  omega
theorem f_mult3 (p e f : Int) (ds es : List Int) (n : Nat) (h1 : Lf p ds n) (h2 : Lf p es n) (hn : n ≤ 1900) :
    ∃ D, F_multiplied [leftV p e ds, leftV p f es] = .ok (leftV p (e + f) D) ∧ Lf p D n ∧ D.length = min ds.length es.length ∧ Mo (p ^ D.length) (U p D) (U p ds * U p es) := by
  have hpb := h1.b
  have P := f_mult p e f ds es n h1 h2 hn
  obtain ⟨m, hm⟩ : ∃ m, m = min ds.length es.length := ⟨_, rfl⟩
  rw [← hm] at P ⊢
  have l1 := h1.len
  have hh : (digs p (U p ds * U p es) m).head? ≠ some 0 := by
    cases m with
    | zero => simp [digs]
    | succ m =>
      have d0 : ds ≠ [] := fun z => by subst z; simp at hm
      have e0 : es ≠ [] := fun z => by subst z; simp at hm
      have := prime_mulI h1.pr (U_head h1 d0) (U_head h2 e0)
      simpa [digs] using this
  rw [(head_lead hh).1, (head_lead hh).2, Int.natCast_zero, Int.add_zero] at P
  have lD : (digs p (U p ds * U p es) m).length = m := digs_len ..
  refine ⟨_, P, ⟨h1.pr, digs_Dg hpb.1 _ _, hh, by omega⟩, lD, ?_⟩
  rw [lD, U_digs hpb.1]
  exact Mo.emod _ _
end PM
namespace PM
open PySem PySem.Spec L2 PL
open PyProof.Rows hiding St
theorem Lf.le {p : Int} {ds : List Int} {n m : Nat} (h : Lf p ds n) (hm : n ≤ m) : Lf p ds m := ⟨h.pr, h.dg, h.hd, Nat.le_trans h.len hm⟩
theorem ixT (p e : Int) (ds : List Int) : ixP (leftV p e ds) (.int 0) = .ok (.int p) ∧ ixP (leftV p e ds) (.int 1) = .ok (.int e) ∧ ixP (leftV p e ds) (.int 2) = .ok (.tup (ds.map PV.int)) := by simp [leftV]
end PM
set_option Elab.async false
set_option linter.all false
set_option maxRecDepth 100000
set_option autoImplicit false
set_option exponentiation.threshold 20000
namespace PM
open PySem PySem.Spec L2 PL
open PyProof.Rows hiding St
theorem prime_cop : ∀ p ∈ primesN, ∀ a : Nat, a < p → a ≠ 0 → Nat.gcd a p = 1 := by decide +kernel
theorem gcd_mod (a w : Int) : Int.gcd (a % w) w = Int.gcd a w := by
  have e : a = a % w + w * (a / w) := by have := Int.mul_ediv_add_emod a w; omega
  conv => rhs; rw [e]
  rw [Int.gcd_add_mul_left_left]
theorem prime_gcd {p a : Int} (hp : p ∈ primesL) (ha : a % p ≠ 0) (k : Nat) : Int.gcd a (p ^ k) = 1 := by
  have hpb := primesL_le p hp
  have e2 : primesL = primesN.map fun (n : Nat) => (n : Int) := rfl
  rw [e2] at hp
  obtain ⟨n, hn, rfl⟩ := List.mem_map.mp hp
  obtain ⟨x, hx⟩ : ∃ x : Nat, a % (n : Int) = x := ⟨(a % (n : Int)).toNat, by have := Int.emod_nonneg a (show (n : Int) ≠ 0 by omega); omega⟩
  have hlt := Int.emod_lt_of_pos a (show 0 < (n : Int) by omega)
  rw [hx] at ha hlt
  have g := prime_cop n hn x (by omega) (by omega)
  have e : Int.gcd a (n : Int) = 1 := by
    have h1 : Int.gcd (a % (n : Int)) (n : Int) = Int.gcd a (n : Int) := gcd_mod _ _
    rw [← h1, hx]; exact g
  have e3 : Nat.Coprime a.natAbs (n ^ k) := Nat.Coprime.pow_right k e
  show Nat.gcd a.natAbs ((n : Int) ^ k).natAbs = 1
  rw [Int.natAbs_pow]; exact e3
theorem le_of_mul_le {a x w : Int} (hx : 0 < x) (ha : 0 ≤ a) (h : a * x ≤ w) : a ≤ w := by
  have := Int.mul_le_mul_of_nonneg_left (show 1 ≤ x by omega) ha
  omega
theorem bez_step {u v s r x y w : Int} (hy : 0 ≤ y) (hs : 0 ≤ s) (hx : x = s * y + r) (h : (u.natAbs : Int) * y + (v.natAbs : Int) * x ≤ w) : (v.natAbs : Int) * r + ((u - s * v).natAbs : Int) * y ≤ w := by
  have h1 : ((u - s * v).natAbs : Int) ≤ u.natAbs + s * v.natAbs := by
    have e : ((s * v).natAbs : Int) = s * v.natAbs := by rw [Int.natAbs_mul]; have : (s.natAbs : Int) = s := by omega
                                                         rw [Int.natCast_mul, this]
    omega
  have h2 := Int.mul_le_mul_of_nonneg_right h1 hy
  have h3 : (v.natAbs : Int) * r + ((u.natAbs : Int) + s * v.natAbs) * y = (u.natAbs : Int) * y + (v.natAbs : Int) * x := by rw [hx]; grind
  omega
theorem turn_run (n : PV) (a w : Int) (hw : 0 < w) (hz : w < 2 ^ 8000) : ∀ (y x : Nat) (u v : Int) (s6 s7 : Slot), Nat.gcd x y = 1 → Mo w x (u * a) → Mo w y (v * a) → (x : Int) ≤ w → (y : Int) ≤ w → (u.natAbs : Int) * y + (v.natAbs : Int) * x ≤ w → (0 < x ∨ v = 0) →
    ∃ z v' s6' s7', sWh (tB1 (e2 gtP (eVo 3) (eC (.int 0)))) (bSeq (sTo (gT (gsCons (gN 6) (gsCons (gN 7) gsNil))) (eD divmodP (aCons (eVo 2) (aCons (eVo 3) aNil)))) (bSeq (sPar 2 3 (aCons (eV 3) (aCons (eV 7) aNil))) (bSeq (sPar 4 5 (aCons (eV 5) (aCons (e2 subP (eVo 4) (e2 mulP (eVo 6) (eVo 5))) aNil))) bNil)))
      [.val n, .val (.int w), .val (.int x), .val (.int y), .val (.int u), .val (.int v), s6, s7] = .next [.val n, .val (.int w), .val (.int 1), .val (.int 0), .val (.int z), .val (.int v'), s6', s7'] ∧ Mo w (z * a) 1 := by
  intro y
  induction y using Nat.strongRecOn with
  | _ y ih =>
    intro x u v s6 s7 hg hu hv hx hy hb h0
    rw [sWh_eq]
    by_cases h : y = 0
    · subst h
      rw [Nat.gcd_zero_right] at hg
      subst hg
      exact ⟨u, v, s6, s7, by simp, hu.symm⟩
    · have hy0 : (0 : Int) < y := by omega
      have g : Nat.gcd y (x % y) = 1 := by rw [Nat.gcd_comm, ← Nat.gcd_rec y x, Nat.gcd_comm]; exact hg
      have e1 : ((x % y : Nat) : Int) = (x : Int) % y := by omega
      have e2 : ((x / y : Nat) : Int) = (x : Int) / y := by omega
      have ex : (x : Int) = (x : Int) / y * y + (x : Int) % y := by have := Int.mul_ediv_add_emod (x : Int) y; rw [Int.mul_comm] at this; omega
      have q0 : 0 ≤ (x : Int) / y := Int.ediv_nonneg (by omega) (by omega)
      have r0 : (x : Int) % y < y := Int.emod_lt_of_pos _ hy0
      have ql : (x : Int) / y ≤ x := Int.ediv_le_self _ (by omega)
      have b := bez_step (s := (x : Int) / y) (by omega) q0 ex hb
      have vl : (v.natAbs : Int) ≤ w := by
        rcases h0 with h0 | h0
        · have hh : 0 ≤ (u.natAbs : Int) * (y : Int) := Int.mul_nonneg (by omega) (by omega)
          exact le_of_mul_le (x := (x : Int)) (by omega) (by omega) (by omega)
        · subst h0; simp; omega
      have mu : Mo w ((x : Int) % y) ((u - (x : Int) / y * v) * a) := by
        have s := hu.sub ((Mo.refl w ((x : Int) / y)).mul hv)
        have e3 : (x : Int) - (x : Int) / y * y = (x : Int) % y := by omega
        rw [e3] at s
        exact s.trans (.of_eq (by grind))
      obtain ⟨z, v', s6', s7', i, m⟩ := ih (x % y) (Nat.mod_lt x (by omega)) y v (u - (x : Int) / y * v) (.val (.int ((x : Int) / y))) (.val (.int ((x : Int) % y))) g hv (by rw [e1]; exact mu) hy (by rw [e1]; omega) (by rw [e1]; exact b) (.inl (by omega))
      refine ⟨z, v', s6', s7', ?_, m⟩
      have dm := divmodP_pos (a := (x : Int)) (b := (y : Int)) hy0 (by omega)
      have mm : mulP (.int ((x : Int) / y)) (.int v) = .ok (.int ((x : Int) / y * v)) := mulP_ii (okMul_of (m := 8000) (n := 8000) (by omega) (by omega) (by omega) (by omega) (by omega))
      rw [e1] at i
      have hyn : 0 < y := by omega
      simp [hyn, dm, mm, i]
theorem f_turned (a w : Int) (hw : 0 < w) (hz : w < 2 ^ 8000) (hg : Int.gcd a w = 1) : ∃ z, F_turned_over [.int a, .int w] = .ok (.int z) ∧ 0 ≤ z ∧ z < w ∧ Mo w (z * a) 1 := by
  obtain ⟨x, hx⟩ : ∃ x : Nat, a % w = x := ⟨(a % w).toNat, by have := Int.emod_nonneg a (show w ≠ 0 by omega); omega⟩
  obtain ⟨y, hy⟩ : ∃ y : Nat, w = y := ⟨w.toNat, by omega⟩
  have hlt := Int.emod_lt_of_pos a hw
  have g : Nat.gcd x y = 1 := by
    have h1 : Int.gcd (a % w) w = Int.gcd a w := gcd_mod _ _
    rw [hx, hg, hy] at h1
    exact h1
  obtain ⟨z, v', s6, s7, r, m⟩ := turn_run (.int a) a w hw hz y x 1 0 .un .un g (by rw [← hx, Int.one_mul]; exact Mo.emod _ _) (by rw [← hy]; exact ⟨1, by grind⟩) (by omega) (by omega) (by simp; omega) (.inr rfl)
  refine ⟨z % w, ?_, Int.emod_nonneg _ (by omega), Int.emod_lt_of_pos _ hw, ((Mo.emod w z).mul (Mo.refl w a)).trans m⟩
  refine (runF_eq (n := 8) (u := D_turned_over)).trans ?_
  show (D_turned_over [.val (.int a), .val (.int w), .un, .un, .un, .un, .un, .un]).res = _
  rw [← hy, ← hx] at r
  have m1 := modP_pos (a := a) hw
  have m2 := modP_pos (a := z) hw
  simp [D_turned_over, m1, m2, r]
theorem f_div3 (p e f : Int) (ds es : List Int) (n : Nat) (h1 : Lf p ds n) (h2 : Lf p es n) (hn : n ≤ 1000) (he : es ≠ []) :
    ∃ D, F_divided [leftV p e ds, leftV p f es] = .ok (leftV p (e - f) D) ∧ Lf p D n ∧ D.length = min ds.length es.length ∧ Mo (p ^ D.length) (U p D * U p es) (U p ds) := by
  have hpb := h1.b
  have l1 := h1.len
  have l2 := h2.len
  obtain ⟨m, hm⟩ : ∃ m, m = min ds.length es.length := ⟨_, rfl⟩
  obtain ⟨d0, d1, d2⟩ := ixT p e ds
  obtain ⟨g0, g1, g2⟩ := ixT p f es
  have u1 := f_unit p e ds hpb.1 hpb.2 h1.dg (by omega)
  have u2 := f_unit p f es hpb.1 hpb.2 h2.dg (by omega)
  have k1 := f_known p e ds
  have k2 := f_known p f es
  have mn : minP [.int (ds.length : Int), .int (es.length : Int)] = .ok (.int ((m : Nat) : Int)) := by rw [minP_ok, show min (ds.length : Int) (es.length : Int) = ((m : Nat) : Int) by omega]
  have pw := f_power_of p m (by omega) (by omega) (by omega)
  rw [show ((m : Nat) : Int).toNat = m by omega] at pw
  have w0 : 0 < p ^ m := Int.pow_pos (by omega)
  have wz : p ^ m < 2 ^ 8000 := by
    have h := sz_le (pow_sz hpb.1 hpb.2 m) (show 7 * m + 1 ≤ 8000 by omega)
    have e : ((2 ^ 8000 : Nat) : Int) = (2 : Int) ^ 8000 := by rw [Int.natCast_pow]; rfl
    omega
  obtain ⟨z, q1, q2, q3, q4⟩ := f_turned (U p es) (p ^ m) w0 wz (prime_gcd h1.pr (U_head h2 he) m)
  have n1 := U_nonneg hpb.1 h1.dg
  have zz : z.natAbs < 2 ^ (7 * m + 1) := lt_sz hpb.1 hpb.2 q2 q3
  have mm : mulP (.int (U p ds)) (.int z) = .ok (.int (U p ds * z)) := mulP_ii (okMul_of (lt_sz hpb.1 hpb.2 n1.1 n1.2) zz (by omega) (by omega) (by omega))
  have ow := f_of_whole p (e - f) (U p ds * z) m h1.pr (by omega)
  have mo : Mo (p ^ m) (U p (digs p (U p ds * z) m) * U p es) (U p ds) := by
    rw [U_digs hpb.1]
    have s := (Mo.emod (p ^ m) (U p ds * z)).mul (Mo.refl _ (U p es))
    have t := (Mo.refl (p ^ m) (U p ds)).mul q4
    exact (s.trans (.of_eq (by grind))).trans (t.trans (.of_eq (by grind)))
  have hh : (digs p (U p ds * z) m).head? ≠ some 0 := by
    cases m with
    | zero => simp [digs]
    | succ m =>
      have dn : ds ≠ [] := fun x => by subst x; simp at hm
      intro hc
      have h0 : (U p ds * z) % p = 0 := by simpa [digs] using hc
      apply U_head h1 dn
      rw [Int.pow_succ, Int.mul_comm (p ^ m)] at q4
      have t := (Mo.refl p (U p ds)).mul q4.dvd
      have : U p ds % p = (U p ds * (z * U p es)) % p := by rw [t.eq, Int.mul_one]
      rw [this, ← Int.mul_assoc, Int.mul_emod, h0, Int.zero_mul, Int.zero_emod]
  rw [(head_lead hh).1, (head_lead hh).2, Int.natCast_zero, Int.add_zero] at ow
  have lD : (digs p (U p ds * z) m).length = m := digs_len ..
  refine ⟨_, ?_, ⟨h1.pr, digs_Dg hpb.1 _ _, hh, by omega⟩, by omega, by rw [lD]; exact mo⟩
  refine (runF_eq (n := 4) (u := D_divided)).trans ?_
  show (D_divided [.val (leftV p e ds), .val (leftV p f es), .un, .un]).res = _
  have ne : eqP (.tup (es.map PV.int)) (.tup []) = .ok (.bl false) := by
    cases es with
    | nil => exact absurd rfl he
    | cons d r => rw [eqP_ok (by simp) (by simp)]; simp
  simp [D_divided, d0, d1, d2, g0, g1, g2, ne, k1, k2, mn, u1, u2, pw, q1, mm, ow]
theorem f_div_bare (p e f : Int) (ds : List Int) : F_divided [leftV p e ds, leftV p f []] = .exc "NoQuotient" := by
  refine (runF_eq (n := 4) (u := D_divided)).trans ?_
  show (D_divided [.val (leftV p e ds), .val (leftV p f []), .un, .un]).res = _
  simp [D_divided, leftV]
end PM
namespace PM
open PySem PySem.Spec L2 PL
open PyProof.Rows hiding St
theorem neTup {ds : List Int} : eqP (.tup (ds.map PV.int)) (.tup []) = .ok (.bl (decide (ds = []))) := by
  cases ds with
  | nil => rw [eqP_ok (by simp) (by simp)]; simp
  | cons d r => rw [eqP_ok (by simp) (by simp)]; simp
theorem maxP_ok (a b : Int) : maxP [.int a, .int b] = .ok (.int (max a b)) := by
  have e : maxP [.int a, .int b] = .ok (.int (if b > a then b else a)) := rfl
  rw [e]; congr 2; split <;> omega
end PM
namespace PM
open PySem PySem.Spec L2 PL
open PyProof.Rows hiding St
end PM
set_option Elab.async false
set_option linter.all false
set_option maxRecDepth 100000
set_option autoImplicit false
set_option exponentiation.threshold 20000
namespace PM
open PySem PySem.Spec L2 PL
open PyProof.Rows hiding St
/-- two neighbours of the row of rests -/
structure Nb (W u z r s v w : Int) : Prop where
  cr : Mo W r (u * s)
  cv : Mo W v (u * w)
  sg : (0 < w ∧ s ≤ 0 ∧ r * w - v * s = W) ∨ (w < 0 ∧ 0 ≤ s ∧ r * w - v * s = -W)
  rz : z < r
  v0 : 0 ≤ v
  vr : v < r
  rW : r ≤ W
  sW : -W ≤ s ∧ s ≤ W
theorem Nb.wW {W u z r s v w : Int} (h : Nb W u z r s v w) (hz : 1 ≤ z) : -W ≤ w ∧ w ≤ W := by
  have hr := h.rz
  have v0 := h.v0
  have hW := h.rW
  rcases h.sg with ⟨h1, h2, h3⟩ | ⟨h1, h2, h3⟩
  · have : v * s ≤ 0 := Int.mul_nonpos_of_nonneg_of_nonpos v0 h2
    have := le_of_mul_le (a := w) (x := r) (w := W) (by omega) (by omega) (by rw [Int.mul_comm]; omega)
    omega
  · have e : 0 ≤ v * s := Int.mul_nonneg v0 h2
    have := le_of_mul_le (a := -w) (x := r) (w := W) (by omega) (by omega) (by rw [Int.neg_mul, Int.mul_comm]; omega)
    omega
theorem Nb.step {W u z r s v w : Int} (h : Nb W u z r s v w) (hz : 1 ≤ z) (hv : z < v) : Nb W u z v w (r % v) (s - r / v * w) := by
  have v0 := h.v0
  have vr := h.vr
  have rW := h.rW
  have ww := h.wW hz
  have q1 : 1 ≤ r / v := (Int.le_ediv_iff_mul_le (by omega)).mpr (by omega)
  have er : r / v * v + r % v = r := by have := Int.mul_ediv_add_emod r v; rw [Int.mul_comm] at this; exact this
  have m0 := Int.emod_nonneg r (show v ≠ 0 by omega)
  have m1 := Int.emod_lt_of_pos r (show 0 < v by omega)
  generalize r / v = q at *
  generalize r % v = m at *
  have det : v * (s - q * w) - m * w = -(r * w - v * s) := by rw [← er]; grind
  refine ⟨h.cv, ?_, ?_, hv, m0, m1, by omega, ww⟩
  · have t := h.cr.sub ((Mo.refl W q).mul h.cv)
    have e : r - q * v = m := by omega
    rw [e] at t
    exact t.trans (.of_eq (by grind))
  · rcases h.sg with ⟨h1, h2, h3⟩ | ⟨h1, h2, h3⟩
    · have : 1 * w ≤ q * w := Int.mul_le_mul_of_nonneg_right q1 (by omega)
      exact .inr ⟨by omega, by omega, by rw [det]; omega⟩
    · have : q * w ≤ 1 * w := Int.mul_le_mul_of_nonpos_right q1 (by omega)
      exact .inl ⟨by omega, by omega, by rw [det]; omega⟩
/-- where a fraction is put -/
def plT (p e t : Int) : Int := t * p ^ e.toNat
def plB (p e b : Int) : Int := b * p ^ (-e).toNat
end PM
set_option Elab.async false
set_option linter.all false
set_option maxRecDepth 100000
set_option autoImplicit false
set_option exponentiation.threshold 20000
namespace PM
open PySem PySem.Spec L2 PL
open PyProof.Rows hiding St
theorem dvd_cop {y x b : Int} (h : y ∣ x * b) (g : Int.gcd y x = 1) : y ∣ b := by
  have h1 : y.natAbs ∣ x.natAbs * b.natAbs := by rw [← Int.natAbs_mul]; exact Int.natAbs_dvd_natAbs.mpr h
  exact Int.natAbs_dvd_natAbs.mp (Nat.Coprime.dvd_of_dvd_mul_left (k := y.natAbs) g h1)
theorem natAbs_le_mul {a b c d : Int} (h1 : a.natAbs ≤ c) (h2 : b.natAbs ≤ d) (h0 : 0 ≤ c) : -(c * d) ≤ a * b ∧ a * b ≤ c * d := by
  have e : ((a * b).natAbs : Int) = (a.natAbs : Int) * b.natAbs := by rw [Int.natAbs_mul]; exact Int.natCast_mul _ _
  have m := Int.mul_le_mul h1 h2 (by omega) h0
  omega
/-- lowest terms are only one -/
theorem low_uniq {T B t b : Int} (hB : B ≠ 0) (hb : 0 < b) (hg : Int.gcd t b = 1) (h : T * b = t * B) : ftop T B = t ∧ fbot T B = b := by
  have y0 := fbot_pos (t := T) hB
  have fl := flow (t := T) hB
  have cr := fcross T B
  generalize ftop T B = x at *
  generalize fbot T B = y at *
  have e : x * b = t * y := by
    have : B * (x * b) = B * (t * y) := by
      calc B * (x * b) = x * B * b := by grind
        _ = T * y * b := by rw [cr]
        _ = T * b * y := by grind
        _ = t * B * y := by rw [h]
        _ = B * (t * y) := by grind
    exact Int.eq_of_mul_eq_mul_left hB this
  have d1 : y ∣ b := dvd_cop (show y ∣ x * b from ⟨t, by rw [e, Int.mul_comm]⟩) (by rw [Int.gcd_comm]; exact fl)
  have d2 : b ∣ y := dvd_cop (show b ∣ t * y from ⟨x, by rw [← e, Int.mul_comm]⟩) (by rw [Int.gcd_comm]; exact hg)
  have yb : y = b := Int.le_antisymm (Int.le_of_dvd hb d1) (Int.le_of_dvd y0 d2)
  subst yb
  exact ⟨Int.eq_of_mul_eq_mul_right (by omega) e, rfl⟩
theorem gcd_pl {p t b e : Int} (hp : p ∈ primesL) (hg : Int.gcd t b = 1) (ht : t % p ≠ 0) (hb : b % p ≠ 0) : Int.gcd (plT p e t) (plB p e b) = 1 := by
  have c1 : Nat.Coprime t.natAbs b.natAbs := hg
  have c2 : ∀ k : Nat, Nat.Coprime (p ^ k).natAbs b.natAbs := fun k => (Nat.Coprime.symm (prime_gcd hp hb k))
  have c3 : ∀ k : Nat, Nat.Coprime t.natAbs (p ^ k).natAbs := fun k => prime_gcd hp ht k
  show Nat.gcd (plT p e t).natAbs (plB p e b).natAbs = 1
  unfold plT plB
  rw [Int.natAbs_mul, Int.natAbs_mul]
  by_cases h : 0 ≤ e
  · rw [show (-e).toNat = 0 by omega, Int.pow_zero]
    simp only [Int.natAbs_one, Nat.mul_one]
    exact Nat.Coprime.mul_left c1 (c2 _)
  · rw [show e.toNat = 0 by omega, Int.pow_zero]
    simp only [Int.natAbs_one, Nat.mul_one]
    exact Nat.Coprime.mul_right c1 (c3 _)
/-- long division -/
def ldig (p b ov : Int) : Int → Nat → List Int
  | _, 0 => []
  | t, k + 1 => (t * ov % p) :: ldig p b ov ((t - t * ov % p * b) / p) k
theorem ldig_len (p b ov : Int) : ∀ (k : Nat) (t : Int), (ldig p b ov t k).length = k
  | 0, _ => rfl
  | k + 1, t => by unfold ldig; rw [List.length_cons, ldig_len p b ov k]
theorem ldig_Dg {p : Int} (hp : 2 ≤ p) (b ov : Int) : ∀ (k : Nat) (t : Int), Dg p (ldig p b ov t k)
  | 0, _ => fun _ h => nomatch h
  | k + 1, t => fun d h => by
    unfold ldig at h
    rcases List.mem_cons.mp h with rfl | h
    · exact ⟨Int.emod_nonneg _ (by omega), Int.emod_lt_of_pos _ (by omega)⟩
    · exact ldig_Dg hp b ov k _ d h
theorem ldig_step {p b ov : Int} (hp : 2 ≤ p) (ho : b * ov % p = 1) (t : Int) : t - t * ov % p * b = p * ((t - t * ov % p * b) / p) := by
  have h : Mo p (t - t * ov % p * b) 0 := by
    have e1 := ((Mo.emod p (t * ov)).mul (Mo.refl p b))
    have e2 : Mo p (b * ov) 1 := Mo.of_emod (by rw [ho, Int.emod_eq_of_lt (by omega) (by omega)])
    have e3 := (Mo.refl p t).mul e2
    have e4 := (Mo.refl p t).sub ((e1.trans (.of_eq (show t * ov * b = t * (b * ov) by grind))).trans e3)
    exact e4.trans (.of_eq (by grind))
  obtain ⟨k, hk⟩ := h
  rw [Int.zero_add] at hk
  rw [hk, Int.mul_ediv_cancel_left _ (by omega)]
theorem ldig_U {p b ov : Int} (hp : 2 ≤ p) (ho : b * ov % p = 1) : ∀ (k : Nat) (t : Int), Mo (p ^ k) (U p (ldig p b ov t k) * b) t
  | 0, t => ⟨U p (ldig p b ov t 0) * b - t, by rw [Int.pow_zero]; omega⟩
  | k + 1, t => by
    have s := ldig_step hp ho t
    have ih := (ldig_U hp ho k ((t - t * ov % p * b) / p)).scale p
    rw [← Int.pow_succ] at ih
    have e : U p (ldig p b ov t (k + 1)) * b = U p (ldig p b ov ((t - t * ov % p * b) / p) k) * b * p + t * ov % p * b := by
      rw [show ldig p b ov t (k + 1) = (t * ov % p) :: ldig p b ov ((t - t * ov % p * b) / p) k from rfl, U_cons]; grind
    rw [e]
    exact (ih.add (Mo.refl _ _)).trans (.of_eq (by rw [Int.mul_comm _ p, ← s]; omega))
theorem ldig_head {p b ov t : Int} (hp : p ∈ primesL) (ho : b * ov % p = 1) (ht : t % p ≠ 0) : ∀ k : Nat, (ldig p b ov t k).head? ≠ some 0
  | 0 => by simp [ldig]
  | k + 1 => by
    have hpb := primesL_le p hp
    have o0 : ov % p ≠ 0 := fun z => by
      rw [Int.mul_emod, z, Int.mul_zero, Int.zero_emod] at ho; omega
    have := prime_mulI hp ht o0
    simpa [ldig] using this
theorem inv_tab : ∀ p ∈ primesN, ∀ a : Nat, a < p → a ≠ 0 → ((List.range p).any fun j => a * j % p == 1) = true := by decide +kernel
theorem inv_ex {p b : Int} (hp : p ∈ primesL) (hb : b % p ≠ 0) : ∃ j : Nat, (j : Int) < p ∧ b * j % p = 1 := by
  have hpb := primesL_le p hp
  have e2 : primesL = primesN.map fun (n : Nat) => (n : Int) := rfl
  rw [e2] at hp
  obtain ⟨n, hn, rfl⟩ := List.mem_map.mp hp
  obtain ⟨x, hx⟩ : ∃ x : Nat, b % (n : Int) = x := ⟨(b % (n : Int)).toNat, by have := Int.emod_nonneg b (show (n : Int) ≠ 0 by omega); omega⟩
  have hlt := Int.emod_lt_of_pos b (show 0 < (n : Int) by omega)
  rw [hx] at hb hlt
  obtain ⟨j, h1, h2⟩ := List.any_eq_true.mp (inv_tab n hn x (by omega) (by omega))
  refine ⟨j, by have := List.mem_range.mp h1; omega, ?_⟩
  rw [Int.mul_emod, hx, Int.emod_eq_of_lt (a := (j : Int)) (by omega) (by have := List.mem_range.mp h1; omega), ← Int.natCast_mul, ← Int.natCast_emod]
  have := beq_iff_eq.mp h2
  omega
/-- the bound while dividing -/
theorem ldig_bd {p b t d M : Int} (hp : 2 ≤ p) (hd : 0 ≤ d ∧ d < p) (ht : t.natAbs ≤ M) (hb : b.natAbs ≤ M) : ((t - d * b) / p).natAbs ≤ M := by
  have q := natAbs_le_mul (a := d) (b := b) (c := p - 1) (d := M) (by omega) hb (by omega)
  have e : (p - 1) * M = p * M - M := by rw [Int.sub_mul, Int.one_mul]
  have h1 : t - d * b ≤ p * M := by omega
  have h2 : p * -M ≤ t - d * b := by rw [Int.mul_neg]; omega
  have a1 : (t - d * b) / p ≤ M := by
    have := Int.ediv_le_ediv (show 0 < p by omega) h1
    rwa [Int.mul_ediv_cancel_left _ (by omega)] at this
  have a2 : -M ≤ (t - d * b) / p := by
    have := Int.ediv_le_ediv (show 0 < p by omega) h2
    rwa [Int.mul_ediv_cancel_left _ (by omega)] at this
  omega
end PM
namespace PM
open PySem PySem.Spec L2 PL
open PyProof.Rows hiding St
theorem stpFor {it : Rho → R (List PV)} {tgt : PV → Rho → Option Rho} {body k : Rho → Out} {ρ : Rho} {r : R PV} (items : List PV) (ρ' : Rho) (hi : it ρ = .ok items) (hf : forL tgt body items ρ = .next ρ') (g : (k ρ').res = r) : (bSeq (sFor it tgt body) k ρ).res = r := by
  rw [bSeq_eq, sFor_eq, hi, stL_ok, hf, then_next]; exact g
/-- the figure that turns a bottom over -/
theorem over_go {ρ : Rho} {i ip : Nat} {p b : Int} (hp : p ∈ primesL) (hb : b % p ≠ 0) (test : Rho → R Bool)
    (ht : ∀ j : Nat, (j : Int) < p → test ((wipeR ρ [i]).set i (.val (.int (0 + (j : Int))))) = .ok (b * (j : Int) % p == 1)) (hi : i < ρ.length) (h1 : notOwn ρ i = true) (hit : iR rng1 (aCons (eVo ip) aNil) ρ = .ok (rngL 0 p.toNat)) :
    ∃ (ov : Int) (l : List PV), eLc [i] (iR rng1 (aCons (eVo ip) aNil)) (gN i) test (eV i) ρ = .ok (.lst (.int ov :: l)) ∧ (0 ≤ ov ∧ ov < p) ∧ b * ov % p = 1 := by
  have hpb := primesL_le p hp
  let c : PV → Bool := fun q => match q with
    | .int j => b * j % p == 1
    | _ => false
  have go := lcGo_filter (tgt := gN i) (test := test) (elt := eV i) (ρ := wipeR ρ [i]) (fun q => q) c (rngL 0 p.toNat) fun q hq => by
    unfold rngL at hq
    obtain ⟨j, hj, rfl⟩ := List.mem_map.mp hq
    have hj' := List.mem_range.mp hj
    refine ⟨_, rfl, ?_, fun _ => eV_of (List.getElem?_set_self (by simp [wipeR]; omega))⟩
    rw [ht j (by omega)]
    show _ = R.ok (b * (0 + (j : Int)) % p == 1)
    rw [Int.zero_add]
  have L := eLc_ok (vs := [i]) (by simp [h1]) hit (by rw [rngL_len]; omega) go
  obtain ⟨j, j1, j2⟩ := inv_ex hp hb
  have mem : PV.int (0 + (j : Int)) ∈ (rngL 0 p.toNat).filter c := by
    refine List.mem_filter.mpr ⟨?_, ?_⟩
    · unfold rngL; exact List.mem_map.mpr ⟨j, List.mem_range.mpr (by omega), rfl⟩
    · show (b * (0 + (j : Int)) % p == 1) = true
      rw [Int.zero_add, j2]; rfl
  rw [List.map_id'] at L
  cases hf : (rngL 0 p.toNat).filter c with
  | nil => rw [hf] at mem; cases mem
  | cons q l =>
    have hq : q ∈ (rngL 0 p.toNat).filter c := by rw [hf]; exact List.mem_cons_self
    obtain ⟨m1, m2⟩ := List.mem_filter.mp hq
    unfold rngL at m1
    obtain ⟨k, hk, rfl⟩ := List.mem_map.mp m1
    have hk' := List.mem_range.mp hk
    have m3 : (b * (0 + (k : Int)) % p == 1) = true := m2
    rw [hf] at L
    exact ⟨0 + (k : Int), l, L, by omega, beq_iff_eq.mp m3⟩
end PM
set_option Elab.async false
set_option linter.all false
set_option maxRecDepth 100000
set_option autoImplicit false
set_option exponentiation.threshold 20000
namespace PM
open PySem PySem.Spec L2 PL
open PyProof.Rows hiding St
theorem ldig_run (p b ov M : Int) (hp : 2 ≤ p ∧ p ≤ 97) (ho : 0 ≤ ov ∧ ov < p) (hb : b.natAbs ≤ M) (hM : M < 2 ^ 5000) (a3 : PV) : ∀ (items : List PV) (t : Int) (figs : List Int) (s6 s7 : Slot), t.natAbs ≤ M → figs.length + items.length ≤ 5000 →
    ∃ t' s6' s7', forL (gN 6) (bSeq (sSet 7 (e2 modP (e2 mulP (eVo 1) (eVo 4)) (eVo 0))) (bSeq (sMut 5 appP (eV 7)) (bSeq (sSet 1 (e2 fdivP (e2 subP (eVo 1) (e2 mulP (eVo 7) (eVo 2))) (eVo 0))) bNil))) items [.val (.int p), .val (.int t), .val (.int b), .val a3, .val (.int ov), .own (figs.map PV.int), s6, s7, .un] = .next [.val (.int p), .val (.int t'), .val (.int b), .val a3, .val (.int ov), .own ((figs ++ ldig p b ov t items.length).map PV.int), s6', s7', .un] := by
  intro items
  induction items with
  | nil => intro t figs s6 s7 _ _; exact ⟨t, s6, s7, by simp [ldig]⟩
  | cons q qs ih =>
    intro t figs s6 s7 ht hl
    rw [List.length_cons] at hl
    obtain ⟨d, hd⟩ : ∃ d, d = t * ov % p := ⟨_, rfl⟩
    have d0 : 0 ≤ d ∧ d < p := by rw [hd]; exact ⟨Int.emod_nonneg _ (by omega), Int.emod_lt_of_pos _ (by omega)⟩
    obtain ⟨t', s6', s7', e⟩ := ih ((t - d * b) / p) (figs ++ [d]) (.val q) (.val (.int d)) (ldig_bd hp.1 d0 ht hb) (by rw [List.length_append, List.length_singleton]; omega)
    refine ⟨t', s6', s7', ?_⟩
    have m1 : mulP (.int t) (.int ov) = .ok (.int (t * ov)) := mulP_ii (okMul_of (m := 5000) (n := 7) (by omega) (by omega) (by omega) (by omega) (by omega))
    have m2 := modP_pos (a := t * ov) (show 0 < p by omega)
    rw [← hd] at m2
    have m3 : mulP (.int d) (.int b) = .ok (.int (d * b)) := mulP_ii (okMul_of (m := 7) (n := 5000) (by omega) (by omega) (by omega) (by omega) (by omega))
    have m4 := fdivP_sm (a := t - d * b) (show 0 < p by omega) (by omega)
    have ap : appP (figs.map PV.int) (.int d) = .ok ((figs ++ [d]).map PV.int) := by rw [appP_ok (by rw [List.length_map]; omega), List.map_append]; rfl
    rw [forL_cons, List.length_cons, show ldig p b ov t (qs.length + 1) = d :: ldig p b ov ((t - d * b) / p) qs.length by rw [hd]; rfl]
    simp only [gN_eq, onR_some, List.set_cons_succ, List.set_cons_zero, bSeq_eq, sSet_eq, e2_eq, eVo0, eVos, bind1, m1, m2, st_ok, then_next, sMut_eq, getOwn0, getOwnS, onOwn_some, eV0, eVs, ap, own_ok, m3, subP_ii, m4, bNil_eq, fo_next, e]
    rw [List.append_assoc, List.singleton_append]
theorem f_figs (p t b M : Int) (n : Nat) (hp : p ∈ primesL) (hbp : b % p ≠ 0) (ht : t.natAbs ≤ M) (hb : b.natAbs ≤ M) (hM : M < 2 ^ 5000) (hn : n ≤ 4000) : ∃ ov, b * ov % p = 1 ∧ F_figures_of [.int p, .int t, .int b, .int n] = .ok (.lst ((ldig p b ov t n).map PV.int)) := by
  have hpb := primesL_le p hp
  obtain ⟨ov, l, L, o1, o2⟩ := over_go (ρ := [.val (.int p), .val (.int t), .val (.int b), .val (.int n), .un, .un, .un, .un, .un]) (i := 8) (ip := 0) hp hbp (tB1 (e2 eqP (e2 modP (e2 mulP (eVo 2) (eVo 8)) (eVo 0)) (eC (.int 1)))) (fun j hj => by
    have m1 : mulP (.int b) (.int (0 + (j : Int))) = .ok (.int (b * (0 + (j : Int)))) := mulP_ii (okMul_of (m := 5000) (n := 7) (by omega) (by omega) (by omega) (by omega) (by omega))
    have m2 := modP_pos (a := b * (0 + (j : Int))) (show 0 < p by omega)
    rw [Int.zero_add] at m1 m2 ⊢
    simp [wipeR, m1, m2]) (by simp) rfl (by
    have hr : rng1 [.int p] = .ok (rngL 0 p.toNat) := by rw [rng1_sm (by omega) (by omega)]
    simp [hr])
  refine ⟨ov, o2, ?_⟩
  refine (runF_eq (n := 9) (u := D_figures_of)).trans ?_
  show (D_figures_of [.val (.int p), .val (.int t), .val (.int b), .val (.int n), .un, .un, .un, .un, .un]).res = _
  have hr : rng1 [.int (n : Int)] = .ok (rngL 0 n) := by rw [rng1_sm (by omega) (by omega)]; rfl
  obtain ⟨t', s6, s7, r⟩ := ldig_run p b ov M hpb o1 hb hM (.int n) (rngL 0 n) t [] .un .un ht (by rw [rngL_len]; simp; omega)
  rw [rngL_len, List.nil_append] at r
  simp only [List.map_nil] at r
  unfold D_figures_of
  refine stp (.int ov) (by simp only [e2_eq, L, eC_eq, bind1, ixP_l0]) ?_
  simp only [List.set_cons_succ, List.set_cons_zero]
  simp [hr, r]
theorem pl_exp (p t b e : Int) (hp : 2 ≤ p ∧ p ≤ 97) (ht : t % p ≠ 0) (hb : b % p ≠ 0) : F_exponent_of [.int p, fracV (plT p e t) (plB p e b)] = .ok (.int e) := by
  refine (runF_eq (n := 2) (u := D_exponent_of)).trans ?_
  show (D_exponent_of [.val (.int p), .val (fracV (plT p e t) (plB p e b))]).res = _
  have e1 := f_exponent p t hp.1 (by omega) ht e.toNat
  have e2 := f_exponent p b hp.1 (by omega) hb (-e).toNat
  have e3 : ((e.toNat : Nat) : Int) - ((-e).toNat : Nat) = e := by omega
  unfold plT plB fracV
  simp only [D_exponent_of, bSeq_eq, sRet_eq, PL.e2_eq, eD_eq, aCons_eq, aNil_eq, eV0, eVs, eVo0, eVos, eC_eq, bind1, ixP_t0, ixP_t1, e1, e2, subP_ii, e3, st_ok, then_ret, res_ret]
theorem f_bared (p t b e : Int) (hp : 2 ≤ p ∧ p ≤ 97) (ht : t % p ≠ 0) (hb : b % p ≠ 0) (he : -1200 ≤ e ∧ e ≤ 1200) : F_bared [.int p, fracV (plT p e t) (plB p e b)] = .ok (.lst [.int t, .int b]) := by
  refine (runF_eq (n := 3) (u := D_bared)).trans ?_
  show (D_bared [.val (.int p), .val (fracV (plT p e t) (plB p e b)), .un]).res = _
  have one : ∀ (m : Int) (k : Nat), m % p ≠ 0 → k ≤ 1200 → (F_exponent [.int p, .int (m * p ^ k)]) = .ok (.int k) ∧ F_power_of [.int p, .int k] = .ok (.int (p ^ k)) ∧ fdivP (.int (m * p ^ k)) (.int (p ^ k)) = .ok (.int m) := fun m k hm hk => by
    have e1 := f_exponent p m hp.1 (by omega) hm k
    have e2 := f_power_of p k (by omega) (by omega) (by omega)
    rw [show ((k : Nat) : Int).toNat = k by omega] at e2
    have p0 : 0 < p ^ k := Int.pow_pos (by omega)
    have pz : p ^ k < 2 ^ 9000 := by
      have h := sz_le (pow_sz hp.1 hp.2 k) (show 7 * k + 1 ≤ 9000 by omega)
      have e : ((2 ^ 9000 : Nat) : Int) = (2 : Int) ^ 9000 := by rw [Int.natCast_pow]; rfl
      omega
    have e3 := fdivP_pos (a := m * p ^ k) p0 pz
    rw [Int.mul_ediv_cancel _ (by omega)] at e3
    exact ⟨e1, e2, e3⟩
  obtain ⟨a1, a2, a3⟩ := one t e.toNat ht (by omega)
  obtain ⟨b1, b2, b3⟩ := one b (-e).toNat hb (by omega)
  unfold plT plB
  generalize e.toNat = i at *
  generalize (-e).toNat = j at *
  have go : lcGo (gN 2) cYes (e2 fdivP (eVo 2) (eD F_power_of (aCons (eV 0) (aCons (eD F_exponent (aCons (eV 0) (aCons (eV 2) aNil))) aNil)))) (wipeR [.val (.int p), .val (fracV (t * p ^ i) (b * p ^ j)), .un] [2]) [.int (t * p ^ i), .int (b * p ^ j)] = .ok [.int t, .int b] := by
    unfold lcGo
    simp only [gN_eq, wipeR, List.set_cons_succ, List.set_cons_zero, cYes, PL.e2_eq, eVos, eVo0, eD_eq, aCons_eq, aNil_eq, eV0, eVs, bind1, a1, a2, a3]
    unfold lcGo
    simp only [gN_eq, List.set_cons_succ, List.set_cons_zero, cYes, PL.e2_eq, eVos, eVo0, eD_eq, aCons_eq, aNil_eq, eV0, eVs, bind1, b1, b2, b3]
    rfl
  have L := eLc_ok (vs := [2]) (it := iS (eV 1)) (ρ := [.val (.int p), .val (fracV (t * p ^ i) (b * p ^ j)), .un]) rfl (by simp [fracV]) (by simp) go
  simp [D_bared, L]
/-- what is seen -/
theorem f_seen (p t b e pl : Int) (hp : p ∈ primesL) (ht : t % p ≠ 0) (hb : b % p ≠ 0) (b0 : 1 ≤ b) (hg : Int.gcd t b = 1) (tz : t.natAbs < 2 ^ 4900) (bz : b < 2 ^ 4900) (he : -1200 ≤ e ∧ e ≤ 1200) (hpl : pl ≤ e + 4000) :
    (pl ≤ e → F_seen_left [.int p, fracV (plT p e t) (plB p e b), .int pl] = .ok (leftV p pl [])) ∧
    (e < pl → ∃ ov, b * ov % p = 1 ∧ F_seen_left [.int p, fracV (plT p e t) (plB p e b), .int pl] = .ok (leftV p e (ldig p b ov t (pl - e).toNat))) := by
  have hpb := primesL_le p hp
  have go : ∀ {o : R PV}, (D_seen_left [.val (.int p), .val (fracV (plT p e t) (plB p e b)), .val (.int pl), .un, .un, .un]).res = o → F_seen_left [.int p, fracV (plT p e t) (plB p e b), .int pl] = o := fun h => (runF_eq (n := 6) (u := D_seen_left)).trans h
  have hp' : isP (.int p) = true := by simp [isP, hp]
  have t0 : t ≠ 0 := fun z => ht (by rw [z]; exact Int.zero_emod p)
  have T0 : plT p e t ≠ 0 := Int.mul_ne_zero t0 (Int.pow_ne_zero (by omega))
  have T0' : (plT p e t == 0) = false := by simpa using T0
  have lo : lowB (fracV (plT p e t) (plB p e b)) = true := by
    unfold fracV lowB
    dsimp only
    rw [gcd_pl hp hg ht hb, decide_eq_true (show 0 < plB p e b from Int.mul_pos (by omega) (Int.pow_pos (by omega)))]; rfl
  have ex := pl_exp p t b e hpb ht hb
  have ba := f_bared p t b e hpb ht hb he
  obtain ⟨Q, hQ⟩ : ∃ Q, Q = fracV (plT p e t) (plB p e b) := ⟨_, rfl⟩
  have q0 : ixP Q (.int 0) = .ok (.int (plT p e t)) := by rw [hQ]; simp [fracV]
  rw [← hQ] at lo ex ba go ⊢
  refine ⟨fun h => go ?_, fun h => ?_⟩
  · have l := f_left p pl (.tup []) [] hp (.inr rfl) (by simp) (fun _ z => nomatch z)
    simp [lead, strip] at l
    simp [D_seen_left, f_is_prime, hp', f_is_whole, f_is_fraction, lo, q0, T0', ex, h, l]
  · obtain ⟨ov, o1, o2⟩ := f_figs p t b (2 ^ 4900) (pl - e).toNat hp hb (by omega) (by omega) (by omega) (by omega)
    rw [show (((pl - e).toNat : Nat) : Int) = pl - e by omega] at o2
    have l := f_left p e (.lst ((ldig p b ov t (pl - e).toNat).map PV.int)) _ hp (.inl rfl) (by rw [ldig_len]; omega) (ldig_Dg hpb.1 b ov _ t)
    have hl := head_lead (ldig_head hp o1 ht (pl - e).toNat)
    rw [hl.1, hl.2, Int.natCast_zero, Int.add_zero] at l
    have h' : ¬ (pl ≤ e) := by omega
    exact ⟨ov, o1, go (by simp [D_seen_left, f_is_prime, hp', f_is_whole, f_is_fraction, lo, q0, T0', ex, h', ba, o2, l])⟩
theorem f_seen_nought (p pl : Int) (hp : p ∈ primesL) : F_seen_left [.int p, .tup [.int 0, .int 1], .int pl] = .ok (leftV p pl []) := by
  refine (runF_eq (n := 6) (u := D_seen_left)).trans ?_
  show (D_seen_left [.val (.int p), .val (.tup [.int 0, .int 1]), .val (.int pl), .un, .un, .un]).res = _
  have hp' : isP (.int p) = true := by simp [isP, hp]
  have lo : lowB (.tup [.int 0, .int 1]) = true := by decide
  have l := f_left p pl (.tup []) [] hp (.inr rfl) (by simp) (fun _ z => nomatch z)
  simp [lead, strip] at l
  simp [D_seen_left, f_is_prime, hp', f_is_whole, f_is_fraction, lo, l]
end PM
set_option Elab.async false
set_option linter.all false
set_option maxRecDepth 100000
set_option autoImplicit false
set_option exponentiation.threshold 20000
namespace PM
open PySem PySem.Spec L2 PL
open PyProof.Rows hiding St
end PM
set_option Elab.async false
set_option linter.all false
set_option maxRecDepth 100000
set_option autoImplicit false
set_option exponentiation.threshold 20000
namespace PM
/-- the sum in A ^ n - B ^ n = (A - B) .. -/
def Gm (A B : Int) : Nat → Int
  | 0 => 0
  | n + 1 => A ^ n + B * Gm A B n
theorem Gm_eq (A B : Int) : ∀ n : Nat, A ^ n = B ^ n + (A - B) * Gm A B n
  | 0 => by simp [Gm]
  | n + 1 => by
    have ih := Gm_eq A B n
    have e : Gm A B (n + 1) = A ^ n + B * Gm A B n := rfl
    rw [e, Int.pow_succ, Int.pow_succ]
    grind
theorem pow_one_up (B D : Int) : ∀ n : Nat, ∃ w, (B + D) ^ n = B ^ n + D * w
  | 0 => ⟨0, by simp⟩
  | n + 1 => by
    obtain ⟨w, h⟩ := pow_one_up B D n
    exact ⟨B ^ n + w * (B + D), by rw [Int.pow_succ, Int.pow_succ, h]; grind⟩
theorem pow_two_up (B D : Int) : ∀ n : Nat, ∃ w, (B + D) ^ (n + 1) = B ^ (n + 1) + (n + 1) * D * B ^ n + D * D * w
  | 0 => ⟨0, by simp [Int.pow_succ]⟩
  | n + 1 => by
    obtain ⟨w, h⟩ := pow_two_up B D n
    refine ⟨(n + 1) * B ^ n + w * (B + D), ?_⟩
    rw [Int.pow_succ, h, Int.pow_succ B (n + 1), Int.pow_succ B n]
    have e : ((n + 1 : Nat) : Int) = (n : Int) + 1 := by omega
    rw [e]
    grind
/-- modulo the difference -/
theorem Gm_mod1 (B D : Int) : ∀ n : Nat, ∃ w, Gm (B + D) B (n + 1) = (n + 1) * B ^ n + D * w
  | 0 => ⟨0, by simp [Gm]⟩
  | n + 1 => by
    obtain ⟨w, h⟩ := Gm_mod1 B D n
    obtain ⟨v, g⟩ := pow_one_up B D (n + 1)
    refine ⟨v + B * w, ?_⟩
    have e : Gm (B + D) B (n + 1 + 1) = (B + D) ^ (n + 1) + B * Gm (B + D) B (n + 1) := rfl
    have e2 : ((n + 1 : Nat) : Int) = (n : Int) + 1 := by omega
    rw [e, h, g, e2, Int.pow_succ]
    grind
/-- modulo its square, twice -/
theorem Gm_mod2 (B D : Int) : ∀ n : Nat, ∃ w, 2 * Gm (B + D) B (n + 2) = 2 * (n + 2) * B ^ (n + 1) + (n + 2) * (n + 1) * D * B ^ n + 2 * (D * D) * w
  | 0 => ⟨0, by simp [Gm]; grind⟩
  | n + 1 => by
    obtain ⟨w, h⟩ := Gm_mod2 B D n
    obtain ⟨v, g⟩ := pow_two_up B D (n + 1)
    refine ⟨v + B * w, ?_⟩
    have e : Gm (B + D) B (n + 1 + 2) = (B + D) ^ (n + 2) + B * Gm (B + D) B (n + 2) := rfl
    have e2 : ((n + 1 : Nat) : Int) = (n : Int) + 1 := by omega
    rw [e, Int.mul_add, g, e2]
    rw [e2] at g
    have h' : 2 * (B * Gm (B + D) B (n + 2)) = B * (2 * (n + 2) * B ^ (n + 1) + (n + 2) * (n + 1) * D * B ^ n + 2 * (D * D) * w) := by rw [← h]; grind
    rw [h', Int.pow_succ B (n + 1), Int.pow_succ B n]
    grind
theorem pow_ne {p B : Int} (hp : p ∈ primesL) (hB : B % p ≠ 0) : ∀ n : Nat, B ^ n % p ≠ 0
  | 0 => by
    have := primesL_le p hp
    rw [Int.pow_zero, Int.emod_eq_of_lt (by omega) (by omega)]; omega
  | n + 1 => by rw [Int.pow_succ]; exact prime_mulI hp (pow_ne hp hB n) hB
theorem ne_add {p a b : Int} (ha : a % p ≠ 0) : (a + p * b) % p ≠ 0 := by rw [Int.add_mul_emod_self_left]; exact ha
theorem step_m {p B d : Int} (hp : p ∈ primesL) (hB : B % p ≠ 0) (m : Nat) (hm : (m : Int) % p ≠ 0) : Gm (B + p * d) B m % p ≠ 0 := by
  cases m with
  | zero => exact absurd (Int.zero_emod p) hm
  | succ n =>
    obtain ⟨w, h⟩ := Gm_mod1 B (p * d) n
    have e2 : ((n + 1 : Nat) : Int) = (n : Int) + 1 := by omega
    rw [e2] at hm
    rw [h, show ((n : Int) + 1) * B ^ n + p * d * w = ((n : Int) + 1) * B ^ n + p * (d * w) by rw [Int.mul_assoc]]
    exact ne_add (prime_mulI hp hm (pow_ne hp hB n))
theorem step_p {p B z : Int} (hp : p ∈ primesL) (hB : B % p ≠ 0) (j : Nat) (hj : 1 ≤ j) (h2 : p = 2 → 2 ≤ j) : ∃ g, Gm (B + p ^ j * z) B p.toNat = p * g ∧ g % p ≠ 0 := by
  have hpb := primesL_le p hp
  by_cases h : p = 2
  · subst h
    obtain ⟨i, rfl⟩ : ∃ i, j = i + 2 := ⟨j - 2, by have := h2 rfl; omega⟩
    refine ⟨B + 2 * (2 ^ i * z), ?_, ne_add hB⟩
    have e : (2 : Int) ^ (i + 2) = 4 * 2 ^ i := by rw [Int.pow_succ, Int.pow_succ]; grind
    rw [e]
    show (B + 4 * 2 ^ i * z) ^ 1 + B * ((B + 4 * 2 ^ i * z) ^ 0 + B * 0) = _
    rw [Int.pow_zero, Int.pow_succ, Int.pow_zero]
    grind
  · obtain ⟨n, hn⟩ : ∃ n, p.toNat = n + 2 := ⟨p.toNat - 2, by omega⟩
    obtain ⟨i, rfl⟩ : ∃ i, j = i + 1 := ⟨j - 1, by omega⟩
    obtain ⟨d, hd⟩ : ∃ d, d = p ^ i * z := ⟨_, rfl⟩
    have eD : p ^ (i + 1) * z = p * d := by rw [hd, Int.pow_succ]; grind
    obtain ⟨w, hw⟩ := Gm_mod2 B (p * d) n
    have ep : (n : Int) + 2 = p := by omega
    rw [ep] at hw
    have e1 : 2 * Gm (B + p * d) B (n + 2) = p * (2 * B ^ (n + 1) + p * ((n + 1) * d * B ^ n + 2 * d * d * w)) := by rw [hw]; grind
    have c2 : (2 : Int) % p ≠ 0 := by rw [Int.emod_eq_of_lt (by omega) (by omega)]; omega
    have dv : p ∣ Gm (B + p * d) B (n + 2) := dvd_cop (x := 2) ⟨_, e1⟩ (by
      have := prime_gcd hp c2 1
      rw [Int.pow_one, Int.gcd_comm] at this
      exact this)
    obtain ⟨g, hg⟩ := dv
    refine ⟨g, by rw [eD, hn]; exact hg, fun k => ?_⟩
    have e2 : 2 * g = 2 * B ^ (n + 1) + p * ((n + 1) * d * B ^ n + 2 * d * d * w) := by
      have : p * (2 * g) = p * (2 * B ^ (n + 1) + p * ((n + 1) * d * B ^ n + 2 * d * d * w)) := by rw [← e1, hg]; grind
      exact Int.eq_of_mul_eq_mul_left (by omega) this
    have e3 := ne_add (p := p) (b := (n + 1) * d * B ^ n + 2 * d * d * w) (prime_mulI hp c2 (pow_ne hp hB (n + 1)))
    rw [← e2, Int.mul_emod, k, Int.mul_zero, Int.zero_emod] at e3
    exact e3 rfl
theorem lte_t {p B : Int} (hp : p ∈ primesL) (hB : B % p ≠ 0) (j : Nat) (y : Int) (hj : 1 ≤ j) (h2 : p = 2 → 2 ≤ j) : ∀ t : Nat, ∃ y', (B + p ^ j * y) ^ (p.toNat ^ t) = B ^ (p.toNat ^ t) + p ^ (j + t) * y' ∧ (y % p ≠ 0 → y' % p ≠ 0)
  | 0 => ⟨y, by simp [Int.pow_succ], fun h => h⟩
  | t + 1 => by
    obtain ⟨y', e, h⟩ := lte_t hp hB j y hj h2 t
    have hB1 := pow_ne hp hB (p.toNat ^ t)
    obtain ⟨g, g1, g2⟩ := step_p (z := y') hp hB1 (j + t) (by omega) (fun k => by have := h2 k; omega)
    have q := Gm_eq (B ^ (p.toNat ^ t) + p ^ (j + t) * y') (B ^ (p.toNat ^ t)) p.toNat
    refine ⟨y' * g, ?_, fun k => prime_mulI hp (h k) g2⟩
    rw [Nat.pow_succ, Int.pow_mul, Int.pow_mul, e, q, g1, show j + (t + 1) = j + t + 1 by omega, Int.pow_succ]
    grind
theorem lte_n {p B : Int} (hp : p ∈ primesL) (hB : B % p ≠ 0) (j : Nat) (y : Int) (hj : 1 ≤ j) (t m : Nat) (h2 : p = 2 → t = 0 ∨ 2 ≤ j) (hm : (m : Int) % p ≠ 0) : ∃ y', (B + p ^ j * y) ^ (p.toNat ^ t * m) = B ^ (p.toNat ^ t * m) + p ^ (j + t) * y' ∧ (y % p ≠ 0 → y' % p ≠ 0) := by
  obtain ⟨y1, e, h⟩ : ∃ y', (B + p ^ j * y) ^ (p.toNat ^ t) = B ^ (p.toNat ^ t) + p ^ (j + t) * y' ∧ (y % p ≠ 0 → y' % p ≠ 0) := by
    by_cases k : p = 2 → 2 ≤ j
    · exact lte_t hp hB j y hj k t
    · have t0 : t = 0 := by
        refine Classical.byContradiction fun q => k fun r => (h2 r).resolve_left q
      subst t0
      exact ⟨y, by simp [Int.pow_succ], fun h => h⟩
  have hB1 := pow_ne hp hB (p.toNat ^ t)
  obtain ⟨i, hi⟩ : ∃ i, j + t = i + 1 := ⟨j + t - 1, by omega⟩
  have q := Gm_eq (B ^ (p.toNat ^ t) + p ^ (j + t) * y1) (B ^ (p.toNat ^ t)) m
  have g2 := step_m (d := p ^ i * y1) hp hB1 m hm
  rw [show p * (p ^ i * y1) = p ^ (j + t) * y1 by rw [hi, Int.pow_succ]; grind] at g2
  refine ⟨y1 * Gm (B ^ (p.toNat ^ t) + p ^ (j + t) * y1) (B ^ (p.toNat ^ t)) m, ?_, fun k => prime_mulI hp (h k) g2⟩
  rw [Int.pow_mul, Int.pow_mul, e, q]
  grind
/-- by two, one figure known -/
theorem lte_2 {B y : Int} (hB : B % 2 ≠ 0) (t m : Nat) (ht : 1 ≤ t) (hm : (m : Int) % 2 ≠ 0) : ∃ y', (B + 2 * y) ^ (2 ^ t * m) = B ^ (2 ^ t * m) + 2 ^ (t + 2) * y' ∧ (B = 1 → y = 1 → y' % 2 ≠ 0) := by
  obtain ⟨s, rfl⟩ : ∃ s, t = s + 1 := ⟨t - 1, by omega⟩
  obtain ⟨c, hc⟩ : ∃ c, y * (B + y) = 2 * c := by
    have : y * (B + y) % 2 = 0 := by
      rcases (show y % 2 = 0 ∨ y % 2 = 1 by omega) with h | h
      · rw [Int.mul_emod, h, Int.zero_mul, Int.zero_emod]
      · have h2 : (B + y) % 2 = 0 := by omega
        rw [Int.mul_emod, h2, Int.mul_zero, Int.zero_emod]
    exact ⟨_, (Int.mul_ediv_cancel' (Int.dvd_of_emod_eq_zero this)).symm⟩
  have sq : (B + 2 * y) ^ 2 = B ^ 2 + 2 ^ 3 * c := by
    have : (B + 2 * y) ^ 2 = B ^ 2 + 4 * (y * (B + y)) := by rw [Int.pow_succ, Int.pow_one, Int.pow_succ, Int.pow_one]; grind
    rw [this, hc]; grind
  have hB2 : B ^ 2 % 2 ≠ 0 := pow_ne (p := 2) (by decide) hB 2
  obtain ⟨y', e, h⟩ := lte_n (p := 2) (by decide) hB2 3 c (by omega) s m (fun _ => .inr (by omega)) hm
  refine ⟨y', ?_, fun h1 h2 => h (by subst h1 h2; omega)⟩
  have ex : 2 ^ (s + 1) * m = 2 * (2 ^ s * m) := by rw [Nat.pow_succ]; grind
  have p1 : (B + 2 * y) ^ (2 * (2 ^ s * m)) = ((B + 2 * y) ^ 2) ^ (2 ^ s * m) := Int.pow_mul
  have p2 : B ^ (2 * (2 ^ s * m)) = (B ^ 2) ^ (2 ^ s * m) := Int.pow_mul
  rw [ex, p1, p2, sq, show s + 1 + 2 = 3 + s by omega]
  exact e
end PM
namespace PM
open PySem PySem.Spec L2 PL
open PyProof.Rows hiding St
theorem Mo.pow {m x y : Int} (h : Mo m x y) : ∀ n : Nat, Mo m (x ^ n) (y ^ n)
  | 0 => by rw [Int.pow_zero, Int.pow_zero]; exact Mo.refl _ _
  | n + 1 => by rw [Int.pow_succ, Int.pow_succ]; exact (Mo.pow h n).mul h
theorem Mo.uniq {w x y : Int} (h : Mo w x y) (h0 : 0 ≤ x) (h1 : x < w) : x = y % w := by rw [← h.eq, Int.emod_eq_of_lt h0 h1]
theorem often_run (w : Int) (hw : 1 < w) (hz : w < 2 ^ 5000) : ∀ (n : Nat) (x f : Int), x.natAbs < 2 ^ 5000 → 0 ≤ f → f < w →
    ∃ x' f', sWh (tB1 (e2 gtP (eVo 1) (eC (.int 0)))) (bSeq (sIf (tB1 (e2 eqP (e2 modP (eVo 1) (eC (.int 2))) (eC (.int 1)))) (bSeq (sSet 3 (e2 modP (e2 mulP (eVo 3) (eVo 0)) (eVo 2))) bNil) bNil) (bSeq (sSet 0 (e2 modP (e2 mulP (eVo 0) (eVo 0)) (eVo 2))) (bSeq (sSet 1 (e2 fdivP (eVo 1) (eC (.int 2)))) bNil)))
      [.val (.int x), .val (.int n), .val (.int w), .val (.int f)] = .next [.val (.int x'), .val (.int 0), .val (.int w), .val (.int f')] ∧ 0 ≤ f' ∧ f' < w ∧ Mo w f' (f * x ^ n) := by
  intro n
  induction n using Nat.strongRecOn with
  | _ n ih =>
    intro x f hx f0 fw
    by_cases h : n = 0
    · subst h
      exact ⟨x, f, by rw [sWh_eq]; simp, f0, fw, by simp; exact Mo.refl _ _⟩
    · have hn : 0 < n := by omega
      have mm : mulP (.int x) (.int x) = .ok (.int (x * x)) := mulP_ii (okMul_of hx hx (by omega) (by omega) (by omega))
      have fm : mulP (.int f) (.int x) = .ok (.int (f * x)) := mulP_ii (okMul_of (m := 5000) (by omega) hx (by omega) (by omega) (by omega))
      have md := modP_pos (a := x * x) (show 0 < w by omega)
      have fd := modP_pos (a := f * x) (show 0 < w by omega)
      have m2 := modP_pos (a := (n : Int)) (b := 2) (by omega)
      have d2 := fdivP_sm (a := (n : Int)) (b := 2) (by omega) (by omega)
      have b0 := Int.emod_nonneg (x * x) (show w ≠ 0 by omega)
      have b1 := Int.emod_lt_of_pos (x * x) (show 0 < w by omega)
      have c0 := Int.emod_nonneg (f * x) (show w ≠ 0 by omega)
      have c1 := Int.emod_lt_of_pos (f * x) (show 0 < w by omega)
      have hd : ((n : Int) / 2) = ((n / 2 : Nat) : Int) := by omega
      have xp : Mo w ((x * x % w) ^ (n / 2)) ((x * x) ^ (n / 2)) := (Mo.emod w (x * x)).pow _
      have xe : (x * x) ^ (n / 2) = x ^ (2 * (n / 2)) := by
        have p2 : x ^ (2 * (n / 2)) = (x ^ 2) ^ (n / 2) := Int.pow_mul
        rw [p2, Int.pow_succ, Int.pow_one]
      rw [sWh_eq]
      by_cases o : n % 2 = 1
      · have o' : (n : Int) % 2 = 1 := by omega
        obtain ⟨x', f', e, q1, q2, q3⟩ := ih (n / 2) (by omega) (x * x % w) (f * x % w) (by omega) c0 c1
        refine ⟨x', f', ?_, q1, q2, ?_⟩
        · rw [← hd] at e
          simp [hn, mm, fm, md, fd, m2, d2, o', e]
        · have k : x ^ n = x * x ^ (2 * (n / 2)) := by
            have : n = 2 * (n / 2) + 1 := by omega
            conv => lhs; rw [this]
            rw [Int.pow_succ, Int.mul_comm]
          rw [k, ← xe, ← Int.mul_assoc]
          exact q3.trans ((Mo.emod w (f * x)).mul xp)
      · have o' : ((n : Int) % 2 == 1) = false := by rw [beq_eq_false_iff_ne]; omega
        obtain ⟨x', f', e, q1, q2, q3⟩ := ih (n / 2) (by omega) (x * x % w) f (by omega) f0 fw
        refine ⟨x', f', ?_, q1, q2, ?_⟩
        · rw [← hd] at e
          simp [hn, mm, md, m2, d2, o', e]
        · have k : x ^ n = x ^ (2 * (n / 2)) := by
            have : n = 2 * (n / 2) := by omega
            conv => lhs; rw [this]
          rw [k, ← xe]
          exact q3.trans ((Mo.refl w f).mul xp)
theorem f_often (a w : Int) (n : Nat) (hw : 1 < w) (hz : w < 2 ^ 5000) (ha : a.natAbs < 2 ^ 5000) : F_often [.int a, .int n, .int w] = .ok (.int (a ^ n % w)) := by
  refine (runF_eq (n := 4) (u := D_often)).trans ?_
  show (D_often [.val (.int a), .val (.int n), .val (.int w), .un]).res = _
  obtain ⟨x', f', e, q1, q2, q3⟩ := often_run w hw hz n a 1 ha (by omega) hw
  rw [Int.one_mul] at q3
  have := q3.uniq q1 q2
  simp [D_often, e, this]
/-- how often p divides a number of times -/
theorem nat_val {p : Int} (hp : 2 ≤ p) (N : Nat) (hN : 1 ≤ N) (h1000 : N ≤ 1000) : ∃ t m : Nat, N = p.toNat ^ t * m ∧ (m : Int) % p ≠ 0 ∧ (N : Int) = m * p ^ t ∧ t ≤ 9 := by
  obtain ⟨m, t, e, hm, _⟩ := vp_spec (p := p) hp (show (N : Int) ≠ 0 by omega)
  have pp : 0 < p ^ t := Int.pow_pos (by omega)
  have m0 : 0 < m := by
    refine Int.not_le.mp fun hle => ?_
    have : m * p ^ t ≤ 0 := Int.mul_nonpos_of_nonpos_of_nonneg hle (by omega)
    omega
  obtain ⟨M, rfl⟩ : ∃ M : Nat, m = M := ⟨m.toNat, by omega⟩
  have low : ∀ k : Nat, (2 : Int) ^ k ≤ p ^ k := fun k => by
    induction k with
    | zero => simp
    | succ k ih =>
      rw [Int.pow_succ, Int.pow_succ]
      exact Int.mul_le_mul ih hp (by omega) (Int.le_trans (Int.pow_nonneg (by omega)) ih)
  refine ⟨t, M, ?_, hm, e, Nat.le_of_not_lt fun h => ?_⟩
  · have : (N : Int) = ((p.toNat ^ t * M : Nat) : Int) := by
      rw [e, Int.natCast_mul, Int.natCast_pow, show ((p.toNat : Nat) : Int) = p by omega, Int.mul_comm]
    omega
  · have l1 := low t
    have l2 : (2 : Int) ^ 10 ≤ 2 ^ t := by rw [pow_split 2 (show 10 ≤ t by omega)]; have : 0 < (2 : Int) ^ (t - 10) := Int.pow_pos (by omega); omega
    have l3 : 1 * p ^ t ≤ M * p ^ t := Int.mul_le_mul_of_nonneg_right (by omega) (by omega)
    omega
/-- how many figures of a power are known -/
def kn (p : Int) (k t : Nat) : Nat := if p = 2 ∧ k = 1 ∧ 0 < t then t + 2 else k + t
theorem f_kn (p m : Int) (k t : Nat) (hp : 2 ≤ p ∧ p ≤ 97) (hm : m % p ≠ 0) : F_known_of_power [.int p, .int k, .int (m * p ^ t)] = .ok (.int (kn p k t)) := by
  refine (runF_eq (n := 4) (u := D_known_of_power)).trans ?_
  show (D_known_of_power [.val (.int p), .val (.int k), .val (.int (m * p ^ t)), .un]).res = _
  have ex := f_exponent p m hp.1 (by omega) hm t
  unfold D_known_of_power
  refine stp (.int t) (by simp [ex]) ?_
  simp only [List.set_cons_succ, List.set_cons_zero]
  unfold kn
  by_cases h : p = 2 ∧ k = 1 ∧ 0 < t
  · obtain ⟨h1, h2, h3⟩ := h
    subst h1 h2
    rw [if_pos ⟨rfl, rfl, h3⟩]
    simp [h3]
  · rw [if_neg h]
    by_cases h1 : p = 2
    · by_cases h2 : k = 1
      · have h3 : ¬ (0 < t) := fun q => h ⟨h1, h2, q⟩
        subst h1 h2
        simp [h3]
      · have h2' : ((k : Int) == 1) = false := by rw [beq_eq_false_iff_ne]; omega
        subst h1
        simp [h2']
    · have h1' : (p == 2) = false := by simpa using h1
      simp [h1']
theorem f_raised_bare (p e : Int) (N : Nat) (hp : p ∈ primesL) (he : e.natAbs < 2 ^ 200) (hN : 1 ≤ N) (h1000 : N ≤ 1000) : F_raised [leftV p e [], .int N] = .ok (leftV p (N * e) []) := by
  refine (runF_eq (n := 4) (u := D_raised)).trans ?_
  show (D_raised [.val (leftV p e []), .val (.int N), .un, .un]).res = _
  obtain ⟨x0, x1, x2⟩ := ixT p e []
  have c1 : ¬ ((N : Int) < 1) := by omega
  have c2 : ¬ ((1000 : Int) < N) := by omega
  have mm : mulP (.int N) (.int e) = .ok (.int (N * e)) := mulP_ii (okMul_of (m := 20) (n := 200) (by omega) he (by omega) (by omega) (by omega))
  have l := f_left p (N * e) (.tup []) [] hp (.inr rfl) (by simp) (fun _ z => nomatch z)
  simp [lead, strip] at l
  unfold D_raised
  refine skp (by simp only [tOr_eq, tNt_eq, tB1_eq, eD_eq, aCons_eq, aNil_eq, eV0, eVs, eVo0, eVos, bind1, f_is_whole, isW_int, asB_eq, Bool.not_true, if_neg Bool.false_ne_true, e2_eq, eC_eq, ltP_ii, decide_eq_false c1, gtP_ii, decide_eq_false c2]) ?_
  refine ifT (by simp [x2]) ?_
  simp [x0, x1, mm, l]
/-- what lies behind the figures known doesn't matter, up to the power's end -/
theorem raise_mo {p : Int} (hp : p ∈ primesL) {B : Int} (hB : B % p ≠ 0) (k t m : Nat) (y : Int) (hk : 1 ≤ k) (hm : (m : Int) % p ≠ 0) : ∃ y', (B + p ^ k * y) ^ (p.toNat ^ t * m) = B ^ (p.toNat ^ t * m) + p ^ kn p k t * y' ∧ (y = 1 → (kn p k t = k + t ∨ B = 1) → y' % p ≠ 0) := by
  have hpb := primesL_le p hp
  unfold kn
  by_cases h : p = 2 ∧ k = 1 ∧ 0 < t
  · obtain ⟨h1, h2, h3⟩ := h
    subst h1 h2
    obtain ⟨y', e, q⟩ := lte_2 (y := y) hB t m h3 hm
    rw [if_pos ⟨rfl, rfl, h3⟩]
    exact ⟨y', by rw [Int.pow_one]; exact e, fun h r => q (r.resolve_left (by omega)) h⟩
  · rw [if_neg h]
    obtain ⟨y', e, q⟩ := lte_n hp hB k y hk t m (fun z => by
      by_cases k1 : k = 1
      · left
        refine Classical.byContradiction fun t0 => h ⟨z, k1, by omega⟩
      · right; omega) hm
    refine ⟨y', e, fun h _ => q ?_⟩
    subst h
    rw [Int.emod_eq_of_lt (by omega) (by omega)]; omega
end PM
set_option Elab.async false
set_option linter.all false
set_option maxRecDepth 100000
set_option autoImplicit false
set_option exponentiation.threshold 20000
namespace PM
open PySem PySem.Spec L2 PL
open PyProof.Rows hiding St
end PM
set_option Elab.async false
set_option linter.all false
set_option maxRecDepth 100000
set_option autoImplicit false
set_option exponentiation.threshold 20000
namespace PM
open PySem PySem.Spec L2 PL
open PyProof.Rows hiding St
theorem stpN {c k : Rho → Out} {ρ ρ' : Rho} {r : R PV} (h : c ρ = .next ρ') (g : (k ρ').res = r) : (bSeq c k ρ).res = r := by
  rw [bSeq_eq, h, then_next]; exact g
end PM
set_option Elab.async false
set_option linter.all false
set_option maxRecDepth 100000
set_option autoImplicit false
set_option exponentiation.threshold 20000
namespace PM
open PySem PySem.Spec L2 PL
open PyProof.Rows hiding St
end PM
set_option Elab.async false
set_option linter.all false
set_option maxRecDepth 100000
set_option autoImplicit false
set_option exponentiation.threshold 20000
namespace PM
open PySem PySem.Spec L2 PL
open PyProof.Rows hiding St
theorem neLeft (p e : Int) (ds : List Int) : neP (leftV p e ds) (leftV p e ds) = .ok (.bl false) := by
  rw [neP_ok (by simp [leftV]) (by simp [leftV])]
  simp [leftV, eqVs_ints]
def figI (e : Int) (ds : List Int) (q : Int) : Int := if q < e then 0 else ds.getD (q - e).toNat 0
/-- the least place below L at which both are unlike, if there is one -/
def PartedI (L e f : Int) (ds es : List Int) (r : PV) : Prop :=
  (r = .non ∧ ∀ q, q < L → figI e ds q = figI f es q) ∨
  (∃ q, q < L ∧ r = .int q ∧ figI e ds q ≠ figI f es q ∧ ∀ q', q' < q → figI e ds q' = figI f es q')
theorem PartedI.uniq {L e f : Int} {ds es : List Int} {r s : PV} (h : PartedI L e f ds es r) (g : PartedI L e f ds es s) : r = s := by
  rcases h with ⟨rfl, h⟩ | ⟨q, h1, rfl, h2, h3⟩ <;> rcases g with ⟨rfl, g⟩ | ⟨q', g1, rfl, g2, g3⟩
  · rfl
  · exact absurd (h _ g1) g2
  · exact absurd (g _ h1) h2
  · have a : ¬ q < q' := fun z => h2 (g3 _ z)
    have b : ¬ q' < q := fun z => g2 (h3 _ z)
    rw [show q = q' by omega]
end PM
set_option Elab.async false
set_option linter.all false
set_option maxRecDepth 100000
set_option autoImplicit false
set_option exponentiation.threshold 20000
namespace PM
open PySem PySem.Spec L2 PL
open PyProof.Rows hiding St
@[simp] theorem sMut0_eq {i : Nat} {g : List PV → R (List PV)} {ρ : Rho} : sMut0 i g ρ = onOwn (getOwn ρ i) fun ps => R.own (g ps) ρ i := by
  unfold sMut0 getOwn
  cases ρ[i]? with
  | none => rfl
  | some t => cases t <;> rfl
@[simp] theorem clearP_eq {ps : List PV} : clearP ps = .ok [] := nr rfl
def onSome {α : Type} (o : Option α) (k : α → Out) : Out := match o with
  | some a => k a
  | none => .stuck
@[simp] theorem onSome_some {α : Type} {a : α} {k : α → Out} : onSome (some a) k = k a := nr rfl
@[simp] theorem sAugI_eq {i : Nat} {fi f : Rho → R PV} {ρ : Rho} : sAugI i fi f ρ = onOwn (getOwn ρ i) fun ps => (fi ρ).st ρ fun q => onSome (getN ps q) fun x => (f ρ).st ρ fun y => R.own (augN ps q x y) ρ i := by
  unfold sAugI getOwn
  cases ρ[i]? with
  | none => rfl
  | some t => cases t with
    | own ps =>
      dsimp only [onOwn, sE]
      cases fi ρ with
      | stuck => rfl
      | exc c => rfl
      | ok q =>
        dsimp only [R.st]
        cases getN ps q with
        | none => rfl
        | some x =>
          dsimp only [onSome, sE]
          cases f ρ <;> rfl
    | _ => rfl
end PM
set_option Elab.async false
set_option linter.all false
set_option maxRecDepth 100000
set_option autoImplicit false
set_option exponentiation.threshold 20000
namespace PM
open PySem PySem.Spec L2 PL
open PyProof.Rows hiding St
theorem ixP_neg {l : List PV} {x : PV} {k : Nat} (hk : 1 ≤ k) (h : k ≤ l.length) (hx : l[l.length - k]? = some x) : ixP (.lst l) (.int (-(k : Int))) = .ok x := by
  have e : atI l (-(k : Int)) = some x := by
    unfold atI ixN
    rw [if_neg (by omega), if_pos (by omega), Option.bind_some, show (-(k : Int) + l.length).toNat = l.length - k by omega, hx]
  unfold ixP
  dsimp only
  rw [e]
def PolyI (as : List Int) : Prop := 2 ≤ as.length ∧ as.length ≤ 9 ∧ as.getLast? ≠ some 0
abbrev Pt := Int × Int
def Abv (q a b : Pt) : Prop := (b.2 - a.2) * (q.1 - a.1) ≤ (q.2 - a.2) * (b.1 - a.1)
def Rises (a b c : Pt) : Prop := (b.2 - a.2) * (c.1 - b.1) < (c.2 - b.2) * (b.1 - a.1)
/-- the stack, its last point first, of a list of points -/
def Cv (S : List Pt) : List Pt → Prop
  | [] => True
  | [a] => a ∈ S
  | b :: a :: r => b ∈ S ∧ a.1 < b.1 ∧ (∀ q ∈ S, a.1 ≤ q.1 → q.1 ≤ b.1 → Abv q a b) ∧ (∀ z, r.head? = some z → Rises z a b) ∧ Cv S (a :: r)
theorem Cv.mem {S : List Pt} : ∀ {s : List Pt}, Cv S s → ∀ q ∈ s, q ∈ S
  | [], _, _, h => nomatch h
  | [a], h, q, hq => by rw [List.mem_singleton.mp hq]; exact h
  | b :: a :: r, h, q, hq => by
    rcases List.mem_cons.mp hq with rfl | hq
    · exact h.1
    · exact Cv.mem h.2.2.2.2 q hq
end PM
set_option Elab.async false
set_option linter.all false
set_option maxRecDepth 100000
set_option autoImplicit false
set_option exponentiation.threshold 20000
namespace PM
open PySem PySem.Spec L2 PL
open PyProof.Rows hiding St
end PM
set_option Elab.async false
set_option linter.all false
set_option maxRecDepth 100000
set_option autoImplicit false
set_option exponentiation.threshold 20000
namespace PM
open PySem PySem.Spec L2 PL
open PyProof.Rows hiding St
noncomputable def vn (p : Int) (n : Nat) : Nat := (vp p n).toNat
theorem vn_spec {p : Int} (hp : 2 ≤ p) {n : Nat} (hn : 1 ≤ n) : ∃ m : Int, (n : Int) = m * p ^ vn p n ∧ m % p ≠ 0 ∧ 1 ≤ m ∧ vp p n = vn p n := by
  obtain ⟨m, v, h1, h2, h3⟩ := vp_spec hp (show (n : Int) ≠ 0 by omega)
  have e : vn p n = v := by unfold vn; rw [h3]; rfl
  have P : 0 < p ^ v := Int.pow_pos (by omega)
  refine ⟨m, by rw [e]; exact h1, h2, ?_, by rw [e]; exact h3⟩
  rcases Int.lt_or_le m 1 with g | g
  · have := Int.mul_le_mul_of_nonneg_right (show m ≤ 0 by omega) (show 0 ≤ p ^ v by omega)
    rw [Int.zero_mul] at this
    omega
  · exact g
theorem vn_uniq {p m : Int} {n v : Nat} (hp : 2 ≤ p) (hn : 1 ≤ n) (h : (n : Int) = m * p ^ v) (hm : m % p ≠ 0) : vn p n = v := by
  obtain ⟨m', h1, h2, _, _⟩ := vn_spec hp hn
  exact (vp_uniq hp (h.symm.trans h1) hm h2).symm
theorem vn_zero {p : Int} {n : Nat} (hp : 2 ≤ p) (hn : 1 ≤ n) (h : (n : Int) % p ≠ 0) : vn p n = 0 := vn_uniq (m := n) hp hn (by simp) h
/-- the figures' sum by a prime: what the factorials lack -/
def dsum (p : Nat) : Nat → Nat → Nat
  | 0, _ => 0
  | f + 1, n => n % p + dsum p f (n / p)
noncomputable def wf (p : Int) : Nat → Nat
  | 0 => 0
  | n + 1 => wf p n + vn p (n + 1)
theorem dsum_0 (p : Nat) : ∀ f : Nat, dsum p f 0 = 0
  | 0 => rfl
  | f + 1 => by rw [dsum, Nat.zero_mod, Nat.zero_div, Nat.zero_add, dsum_0 p f]
theorem dsum_fuel {p : Nat} (hp : 2 ≤ p) : ∀ (f g n : Nat), n ≤ f → n ≤ g → dsum p f n = dsum p g n
  | 0, g, n, h, _ => by
    have e : n = 0 := by omega
    subst e
    rw [dsum_0, dsum_0]
  | f + 1, 0, n, _, h => by
    have e : n = 0 := by omega
    subst e
    rw [dsum_0, dsum_0]
  | f + 1, g + 1, n, h1, h2 => by
    rw [dsum, dsum]
    have : n / p ≤ n / 2 := Nat.div_le_div_left hp (by omega)
    rw [dsum_fuel hp f g (n / p) (by omega) (by omega)]
theorem vn_dsum {p : Nat} (hp : 2 ≤ p) : ∀ (f n : Nat), n + 1 ≤ f → (p - 1) * vn p (n + 1) + dsum p f (n + 1) = 1 + dsum p f n
  | 0, _, h => by omega
  | f + 1, n, h => by
    by_cases c : (n + 1) % p = 0
    · obtain ⟨j, hj⟩ : ∃ j, n + 1 = p * j := ⟨(n + 1) / p, by have := Nat.div_add_mod (n + 1) p; omega⟩
      have j0 : j ≠ 0 := fun z => by rw [z] at hj; omega
      obtain ⟨i, rfl⟩ : ∃ i, j = i + 1 := ⟨j - 1, by omega⟩
      have hn : n = p * i + (p - 1) := by rw [Nat.mul_add] at hj; omega
      have d1 : (n + 1) / p = i + 1 := by rw [hj]; exact Nat.mul_div_cancel_left _ (by omega)
      have d2 : n / p = i := by rw [hn, Nat.mul_add_div (by omega), Nat.div_eq_of_lt (by omega)]; omega
      have m2 : n % p = p - 1 := by rw [hn, Nat.mul_add_mod, Nat.mod_eq_of_lt (by omega)]
      have il : i + 1 ≤ f := by
        have : 2 * (i + 1) ≤ p * (i + 1) := Nat.mul_le_mul_right _ hp
        omega
      have ih := vn_dsum hp f i il
      obtain ⟨m, h1, h2, _, _⟩ := vn_spec (p := (p : Int)) (by omega) (show 1 ≤ i + 1 by omega)
      have e : vn p (n + 1) = vn p (i + 1) + 1 := vn_uniq (m := m) (by omega) (by omega) (by rw [hj, Int.natCast_mul, h1, Int.pow_succ]; grind) h2
      rw [dsum, dsum, c, d1, d2, m2, e, Nat.mul_add]
      omega
    · have hv : vn p (n + 1) = 0 := vn_zero (by omega) (by omega) (by omega)
      have hp0 : 0 < p := by omega
      have dm := Nat.div_add_mod n p
      have lt := Nat.mod_lt n hp0
      have e1 : n % p + 1 < p := by
        rcases Nat.lt_or_ge (n % p + 1) p with g | g
        · exact g
        · exfalso
          have : n + 1 = p * (n / p + 1) := by rw [Nat.mul_add]; omega
          rw [this] at c
          exact c (Nat.mul_mod_right _ _)
      have e2 : n + 1 = p * (n / p) + (n % p + 1) := by omega
      have d1 : (n + 1) / p = n / p := by
        conv => lhs; rw [e2]
        rw [Nat.mul_add_div hp0, Nat.div_eq_of_lt e1]; omega
      have d2 : (n + 1) % p = n % p + 1 := by
        conv => lhs; rw [e2]
        rw [Nat.mul_add_mod, Nat.mod_eq_of_lt e1]
      rw [dsum, dsum, hv, d1, d2]
      omega
theorem wf_dsum {p : Nat} (hp : 2 ≤ p) (f : Nat) : ∀ n : Nat, n ≤ f → (p - 1) * wf p n + dsum p f n = n
  | 0, _ => by
    have := dsum_fuel hp f 0 0 (by omega) (by omega)
    rw [wf, Nat.mul_zero, this]; rfl
  | n + 1, h => by
    have ih := wf_dsum hp f n (by omega)
    have s := vn_dsum hp f n h
    rw [wf, Nat.mul_add]
    omega
theorem dsum_pos {p : Nat} (hp : 2 ≤ p) : ∀ (f n : Nat), n ≤ f → 1 ≤ n → 1 ≤ dsum p f n
  | 0, n, h, h2 => by omega
  | f + 1, n, h, h2 => by
    rw [dsum]
    by_cases c : n % p = 0
    · have : n / p ≤ n / 2 := Nat.div_le_div_left hp (by omega)
      have d := Nat.div_add_mod n p
      have : 1 ≤ n / p := by
        rcases Nat.eq_zero_or_pos (n / p) with g | g
        · rw [g] at d; omega
        · exact g
      have := dsum_pos hp f (n / p) (by omega) this
      omega
    · omega
theorem wf_lt {p : Int} (hp : 2 ≤ p) (n : Nat) (hn : 1 ≤ n) : (p - 1) * (wf p n : Int) ≤ n - 1 := by
  obtain ⟨q, rfl⟩ : ∃ q : Nat, p = q := ⟨p.toNat, by omega⟩
  have h1 := wf_dsum (p := q) (by omega) n n (Nat.le_refl _)
  have h2 := dsum_pos (p := q) (by omega) n n (Nat.le_refl _) hn
  have e : ((q - 1 : Nat) : Int) = (q : Int) - 1 := by omega
  have h3 : ((q - 1 : Nat) : Int) * (wf q n : Int) = (((q - 1) * wf q n : Nat) : Int) := by rw [Int.natCast_mul]
  rw [← e, h3]
  omega
theorem wf_le {p : Int} (hp : 2 ≤ p) (n : Nat) (hn : 1 ≤ n) : wf p n + 1 ≤ n := by
  have h := wf_lt hp n hn
  have : 1 * (wf p n : Int) ≤ (p - 1) * (wf p n : Int) := Int.mul_le_mul_of_nonneg_right (by omega) (by omega)
  omega
end PM
set_option Elab.async false
set_option linter.all false
set_option maxRecDepth 100000
set_option autoImplicit false
set_option exponentiation.threshold 20000
namespace PM
open PySem PySem.Spec L2 PL
open PyProof.Rows hiding St
theorem mo_iff {m x y : Int} : Mo m x y ↔ m ∣ x - y := by
  constructor
  · rintro ⟨z, h⟩; exact ⟨z, by omega⟩
  · rintro ⟨z, h⟩; exact ⟨z, by omega⟩
theorem Mo.canc {p m a b : Int} (hp : p ∈ primesL) (hm : m % p ≠ 0) {E v : Nat} (h : Mo (p ^ (E + v)) (m * p ^ v * a) (m * p ^ v * b)) : Mo (p ^ E) a b := by
  have hpb := primesL_le p hp
  have P : p ^ v ≠ 0 := Int.pow_ne_zero (by omega)
  rw [mo_iff] at h ⊢
  obtain ⟨z, hz⟩ := h
  have e : m * (a - b) = p ^ E * z := by
    rw [Int.pow_add] at hz
    refine Int.eq_of_mul_eq_mul_left P ?_
    grind
  have g : Int.gcd (p ^ E) m = 1 := by rw [Int.gcd_comm]; exact prime_gcd hp hm E
  have d : (p ^ E).natAbs ∣ m.natAbs * (a - b).natAbs := by rw [← Int.natAbs_mul]; exact Int.natAbs_dvd_natAbs.mpr ⟨z, e⟩
  exact Int.natAbs_dvd_natAbs.mp (Nat.Coprime.dvd_of_dvd_mul_left g d)
theorem Mo.cancP {p a b : Int} (hp : 2 ≤ p) {E v : Nat} (h : Mo (p ^ (E + v)) (p ^ v * a) (p ^ v * b)) : Mo (p ^ E) a b := by
  have P : p ^ v ≠ 0 := Int.pow_ne_zero (by omega)
  obtain ⟨z, hz⟩ := h
  refine ⟨z, Int.eq_of_mul_eq_mul_left P ?_⟩
  rw [hz, Int.pow_add]
  grind
theorem Mo.up {p a b : Int} {E : Nat} (v : Nat) (m : Int) (h : Mo (p ^ E) a b) : Mo (p ^ (E + v)) (m * p ^ v * a) (m * p ^ v * b) := by
  obtain ⟨z, hz⟩ := h
  exact ⟨m * z, by rw [hz, Int.pow_add]; grind⟩
theorem pow_mo0 {p x : Int} {s : Nat} (h : Mo (p ^ s) x 0) (k : Nat) : Mo (p ^ (s * k)) (x ^ k) 0 := by
  obtain ⟨z, hz⟩ := h
  refine ⟨z ^ k, ?_⟩
  rw [hz, Int.zero_add, Int.mul_pow, Int.pow_mul, Int.zero_add]
def fac : Nat → Int
  | 0 => 1
  | n + 1 => fac n * ((n + 1 : Nat) : Int)
noncomputable def mfc (p : Int) : Nat → Int
  | 0 => 1
  | n + 1 => mfc p n * (((n + 1 : Nat) : Int) / p ^ vn p (n + 1))
theorem vn_div {p : Int} (hp : 2 ≤ p) {n : Nat} (hn : 1 ≤ n) : (n : Int) = (n : Int) / p ^ vn p n * p ^ vn p n ∧ ((n : Int) / p ^ vn p n) % p ≠ 0 ∧ 1 ≤ (n : Int) / p ^ vn p n ∧ (n : Int) / p ^ vn p n ≤ n := by
  obtain ⟨m, h1, h2, h3, _⟩ := vn_spec hp hn
  have P : 0 < p ^ vn p n := Int.pow_pos (by omega)
  have e : (n : Int) / p ^ vn p n = m := by
    conv => lhs; rw [h1]
    exact Int.mul_ediv_cancel _ (by omega)
  rw [e]
  refine ⟨h1, h2, h3, ?_⟩
  have := Int.mul_le_mul_of_nonneg_left (show 1 ≤ p ^ vn p n by omega) (show 0 ≤ m by omega)
  omega
theorem mfc_spec {p : Int} (hp : p ∈ primesL) : ∀ n : Nat, fac n = mfc p n * p ^ wf p n ∧ mfc p n % p ≠ 0
  | 0 => by
    have hpb := primesL_le p hp
    refine ⟨by simp [fac, mfc, wf], ?_⟩
    rw [mfc, Int.emod_eq_of_lt (by omega) (by omega)]; decide
  | n + 1 => by
    have hpb := primesL_le p hp
    obtain ⟨h1, h2⟩ := mfc_spec hp n
    obtain ⟨g1, g2, _⟩ := vn_div hpb.1 (show 1 ≤ n + 1 by omega)
    refine ⟨?_, prime_mulI hp h2 g2⟩
    rw [fac, h1, mfc, wf, Int.pow_add]
    conv => lhs; rw [g1]
    grind
def sms (q : Nat → Int) : Nat → Int
  | 0 => q 0
  | n + 1 => sms q n + q (n + 1)
def LgQ (p : Int) (E : Nat) (x : Int) (q : Nat → Int) (N : Nat) : Prop := ∀ k : Nat, 1 ≤ k → k ≤ N → Mo (p ^ (E + vn p k)) (k * q k) (x ^ k)
def ExQ (p : Int) (E : Nat) (x : Int) (q : Nat → Int) (N : Nat) : Prop := ∀ k : Nat, k ≤ N → Mo (p ^ (E + wf p k)) (fac k * q k) (x ^ k)
noncomputable def trn (a w : Int) : Int := match F_turned [.int a, .int w] with | .ok (.int z) => z | _ => 0
theorem f_near (p e : Int) (ds : List Int) : F_is_near_one [leftV p e ds] = .ok (.bl (decide (e = 0 ∧ ds.head? = some 1 ∧ (p = 2 → ds[1]? = some 0)))) := by
  refine (runF_eq (n := 4) (u := D_is_near_one)).trans ?_
  show (D_is_near_one [.val (leftV p e ds), .un, .un, .un]).res = _
  have g : gT (gsCons (gN 1) (gsCons (gN 2) (gsCons (gN 3) gsNil))) (leftV p e ds) [.val (leftV p e ds), .un, .un, .un] = some [.val (leftV p e ds), .val (.int p), .val (.int e), .val (.tup (ds.map PV.int))] := rfl
  have t0 : tupP [] = .ok (.tup []) := tupP_ok (by simp)
  have ln : lenP [.tup (ds.map PV.int)] = .ok (.int ds.length) := by simp
  unfold D_is_near_one
  refine stpN (by rw [sTo_eq, eV0, st_ok, g]) ?_
  by_cases he : e = 0
  · cases ds with
    | nil =>
      have n1 : eqP (.tup []) (.tup []) = .ok (.bl true) := neTup (ds := [])
      simp [t0, he, n1]
    | cons d r =>
      have n1 : eqP (.tup ((d :: r).map PV.int)) (.tup []) = .ok (.bl false) := neTup (ds := d :: r)
      have i0 : ixP (.tup ((d :: r).map PV.int)) (.int 0) = .ok (.int d) := ixP_tup (by omega) rfl
      obtain ⟨X, hX⟩ : ∃ X, X = PV.tup ((d :: r).map PV.int) := ⟨_, rfl⟩
      by_cases hd : d = 1
      · rw [← hX] at n1 i0 ln ⊢
        by_cases h2 : p = 2
        · cases r with
          | nil =>
            have l1 : decide ((1 : Int) > 1) = false := rfl
            simp [t0, he, n1, i0, hd, h2, ln]
          | cons c r =>
            have i1 : ixP X (.int 1) = .ok (.int c) := by rw [hX]; exact ixP_tup (by omega) rfl
            have l1 : (1 : Int) < (r.length : Int) + 1 + 1 := by omega
            simp [t0, he, n1, i0, i1, hd, h2, ln, l1]
            rfl
        · simp [t0, he, n1, i0, hd, h2]
      · rw [← hX] at n1 i0 ln ⊢
        simp [t0, he, n1, i0, hd]
  · simp [he]
noncomputable def ep (p : Int) (n : Nat) (u : Int) : Nat → Int
  | 0 => 1
  | k + 1 => ep p n u k * u * trn (((k + 1 : Nat) : Int) / p ^ vn p (k + 1)) (p ^ n) % p ^ n
noncomputable def er (p : Int) (s k : Nat) : Nat := k * s - wf p k
noncomputable def ee (p : Int) (n : Nat) (u : Int) (s : Nat) (k : Nat) : Int := if k = 0 then 1 else if er p s k < n then ep p n u k * p ^ er p s k else 0
end PM
set_option Elab.async false
set_option linter.all false
set_option maxRecDepth 100000
set_option autoImplicit false
set_option exponentiation.threshold 20000
namespace PM
theorem Mo.zero {m x : Int} (z : Int) (h : x = m * z) : Mo m x 0 := ⟨z, by rw [h, Int.zero_add]⟩
theorem Mo.scaleP {p X Y c : Int} {a b : Nat} (h : Mo (p ^ a) X Y) (hc : Mo (p ^ b) c 0) : Mo (p ^ (a + b)) (X * c) (Y * c) := by
  obtain ⟨z, hz⟩ := h
  obtain ⟨w, hw⟩ := hc
  exact ⟨z * w, by rw [hz, hw, Int.pow_add]; grind⟩
theorem Mo.zeroP {p X c : Int} {a b : Nat} (h : Mo (p ^ a) X 0) (hc : Mo (p ^ b) c 0) : Mo (p ^ (a + b)) (X * c) 0 := by
  have := Mo.scaleP h hc
  rwa [Int.zero_mul] at this
theorem Mo.zero_mul {m X : Int} (c : Int) (h : Mo m X 0) : Mo m (X * c) 0 := by
  obtain ⟨z, hz⟩ := h
  exact ⟨z * c, by rw [hz]; grind⟩
theorem sms_tail {W : Int} {q : Nat → Int} {M : Nat} : ∀ N : Nat, M ≤ N → (∀ k, M < k → k ≤ N → Mo W (q k) 0) → Mo W (sms q N) (sms q M)
  | 0, h, _ => by
    have e : M = 0 := by omega
    subst e; exact .refl _ _
  | N + 1, h, t => by
    by_cases e : M = N + 1
    · subst e; exact .refl _ _
    · have ih := sms_tail N (by omega) fun k h1 h2 => t k h1 (by omega)
      rw [sms]
      exact (ih.add (t (N + 1) (by omega) (by omega))).trans (.of_eq (Int.add_zero _))
section
variable {p x : Int} {E : Nat}
theorem ex_tail (hp : p ∈ primesL) {e : Nat → Int} {N s k : Nat} (h : ExQ p E x e N) (hx : Mo (p ^ s) x 0) (hN : k ≤ N) (hs : E + wf p k ≤ s * k) : Mo (p ^ E) (e k) 0 := by
  obtain ⟨f1, f2⟩ := mfc_spec hp k
  have a := (h k hN).trans ((pow_mo0 hx k).low hs)
  refine Mo.canc hp f2 (v := wf p k) ?_
  rw [← f1, Int.mul_zero]; exact a
end
theorem LgQ.low {p x : Int} {E F N : Nat} {q : Nat → Int} (h : LgQ p E x q N) (hF : F ≤ E) : LgQ p F x q N := fun k h1 h2 => (h k h1 h2).low (by omega)
theorem ExQ.low {p x : Int} {E F N : Nat} {q : Nat → Int} (h : ExQ p E x q N) (hF : F ≤ E) : ExQ p F x q N := fun k h2 => (h k h2).low (by omega)
end PM
set_option Elab.async false
set_option linter.all false
set_option maxRecDepth 100000
set_option autoImplicit false
set_option exponentiation.threshold 20000
namespace PM
def cb : Nat → Nat → Int
  | _, 0 => 1
  | 0, _ + 1 => 0
  | n + 1, k + 1 => cb n k + cb n (k + 1)
theorem cb_zero (n : Nat) : cb n 0 = 1 := by cases n <;> rfl
theorem cb_step (n k : Nat) : cb (n + 1) (k + 1) = cb n k + cb n (k + 1) := rfl
theorem cb_abs : ∀ n k : Nat, ((k + 1 : Nat) : Int) * cb (n + 1) (k + 1) = ((n + 1 : Nat) : Int) * cb n k
  | 0, 0 => by rw [cb_step, cb_zero]; rfl
  | 0, k + 1 => by rw [cb_step]; show ((k + 1 + 1 : Nat) : Int) * (0 + 0) = ((0 + 1 : Nat) : Int) * 0; omega
  | n + 1, 0 => by
    have h := cb_abs n 0
    rw [cb_step (n + 1) 0, cb_zero]
    rw [cb_zero] at h
    have e : ((0 + 1 : Nat) : Int) = 1 := rfl
    rw [e] at h ⊢
    have e2 : ((n + 1 + 1 : Nat) : Int) = ((n + 1 : Nat) : Int) + 1 := by omega
    rw [e2]
    grind
  | n + 1, k + 1 => by
    have h1 := cb_abs n (k + 1)
    have h0 := cb_abs n k
    have s := cb_step (n + 1) (k + 1)
    have t := cb_step n k
    have e1 : ((k + 1 + 1 : Nat) : Int) = ((k + 1 : Nat) : Int) + 1 := by omega
    have e2 : ((n + 1 + 1 : Nat) : Int) = ((n + 1 : Nat) : Int) + 1 := by omega
    rw [e1] at h1
    rw [s, e1, e2]
    obtain ⟨a, ha⟩ : ∃ a, a = ((k + 1 : Nat) : Int) := ⟨_, rfl⟩
    obtain ⟨b, hb⟩ : ∃ b, b = ((n + 1 : Nat) : Int) := ⟨_, rfl⟩
    rw [← ha, ← hb] at h1 h0 ⊢
    grind
theorem cb_big : ∀ n k : Nat, n < k → cb n k = 0
  | _, 0, h => by omega
  | 0, k + 1, _ => rfl
  | n + 1, k + 1, h => by rw [cb_step, cb_big n k (by omega), cb_big n (k + 1) (by omega)]; rfl
def Lg (p : Int) (E : Nat) (x T : Int) : Prop := ∃ K0 : Nat, ∀ K : Nat, K0 ≤ K → Mo (p ^ (E + K)) (p ^ K * T) ((1 + x) ^ (p.toNat ^ K) - 1)
theorem Lg.low {p x T : Int} {E F : Nat} (h : Lg p E x T) (hF : F ≤ E) : Lg p F x T := by
  obtain ⟨K0, h⟩ := h
  exact ⟨K0, fun K hK => (h K hK).low (by omega)⟩
theorem Lg.uniq {p x T S : Int} (hp : 2 ≤ p) {E : Nat} (h : Lg p E x T) (g : Lg p E x S) : Mo (p ^ E) T S := by
  obtain ⟨K0, h⟩ := h
  obtain ⟨K1, g⟩ := g
  exact Mo.cancP hp (v := K0 + K1) ((h (K0 + K1) (by omega)).trans (g (K0 + K1) (by omega)).symm)
theorem Lg.mul {p x y T S : Int} {E : Nat} (h : Lg p E x T) (g : Lg p E y S) : Lg p E (x + y + x * y) (T + S) := by
  obtain ⟨K0, h⟩ := h
  obtain ⟨K1, g⟩ := g
  refine ⟨E + K0 + K1, fun K hK => ?_⟩
  have h := h K (by omega)
  have g := g K (by omega)
  obtain ⟨X, hX⟩ : ∃ X, X = (1 + x) ^ (p.toNat ^ K) - 1 := ⟨_, rfl⟩
  obtain ⟨Y, hY⟩ : ∃ Y, Y = (1 + y) ^ (p.toNat ^ K) - 1 := ⟨_, rfl⟩
  have e : (1 + (x + y + x * y)) ^ (p.toNat ^ K) - 1 = X + Y + X * Y := by
    have e1 : 1 + (x + y + x * y) = (1 + x) * (1 + y) := by grind
    rw [e1, Int.mul_pow, hX, hY]
    grind
  rw [← hX] at h
  rw [← hY] at g
  rw [e]
  have z : Mo (p ^ (E + K)) (X * Y) 0 := by
    have x0 : Mo (p ^ K) X 0 := (h.symm.low (by omega)).trans (Mo.zero T rfl)
    have y0 : Mo (p ^ K) Y 0 := (g.symm.low (by omega)).trans (Mo.zero S rfl)
    exact (Mo.zeroP x0 y0).low (by omega)
  have s := (h.add g).add z.symm
  exact (Mo.of_eq (by grind)).trans s
theorem Lg.pow {p x T : Int} (hp : p ∈ primesL) {E k : Nat} (hk : 1 ≤ k) (h : Lg p E x T) : Lg p (E + vn p k) ((1 + x) ^ k - 1) (k * T) := by
  have hpb := primesL_le p hp
  obtain ⟨K0, h⟩ := h
  refine ⟨E + vn p k + K0, fun K hK => ?_⟩
  have h := h K (by omega)
  obtain ⟨X, hX⟩ : ∃ X, X = (1 + x) ^ (p.toNat ^ K) - 1 := ⟨_, rfl⟩
  rw [← hX] at h
  obtain ⟨n, hn⟩ : ∃ n, k = n + 1 := ⟨k - 1, by omega⟩
  obtain ⟨w, hw⟩ := pow_two_up 1 X n
  have e : (1 + ((1 + x) ^ k - 1)) ^ (p.toNat ^ K) - 1 = k * X + X * X * w := by
    have e1 : 1 + ((1 + x) ^ k - 1) = (1 + x) ^ k := by omega
    have e2 : (1 + x) ^ (p.toNat ^ K) = 1 + X := by omega
    rw [e1, ← Int.pow_mul, Nat.mul_comm, Int.pow_mul, e2, hn, hw, Int.one_pow, Int.one_pow, show ((n + 1 : Nat) : Int) = (n : Int) + 1 by omega]
    grind
  rw [e]
  have x0 : Mo (p ^ K) X 0 := (h.symm.low (by omega)).trans (Mo.zero T rfl)
  have z : Mo (p ^ (E + vn p k + K)) (X * X * w) 0 := Mo.zero_mul w ((Mo.zeroP x0 x0).low (by omega))
  obtain ⟨m, v1, _, _, _⟩ := vn_spec hpb.1 hk
  have a := Mo.scaleP h (Mo.zero (m := p ^ vn p k) m (show (k : Int) = _ by rw [v1, Int.mul_comm]))
  rw [show E + K + vn p k = E + vn p k + K by omega] at a
  have s := a.add z.symm
  exact (Mo.of_eq (by grind)).trans (s.trans (.of_eq (by grind)))
end PM
set_option Elab.async false
set_option linter.all false
set_option maxRecDepth 100000
set_option autoImplicit false
set_option exponentiation.threshold 20000
namespace PM
open PySem PySem.Spec L2 PL
open PyProof.Rows hiding St
theorem sms_front (f : Nat → Int) : ∀ M : Nat, sms f (M + 1) = f 0 + sms (fun i => f (i + 1)) M
  | 0 => rfl
  | M + 1 => by
    have ih := sms_front f M
    rw [show sms f (M + 1 + 1) = sms f (M + 1) + f (M + 1 + 1) from rfl, ih]
    show f 0 + sms (fun i => f (i + 1)) M + f (M + 1 + 1) = f 0 + (sms (fun i => f (i + 1)) M + f (M + 1 + 1))
    omega
theorem sms_add (f g : Nat → Int) : ∀ M : Nat, sms (fun i => f i + g i) M = sms f M + sms g M
  | 0 => rfl
  | M + 1 => by
    have ih := sms_add f g M
    show sms (fun i => f i + g i) M + (f (M + 1) + g (M + 1)) = sms f M + f (M + 1) + (sms g M + g (M + 1))
    omega
theorem sms_mul (c : Int) (f : Nat → Int) : ∀ M : Nat, sms (fun i => c * f i) M = c * sms f M
  | 0 => rfl
  | M + 1 => by
    have ih := sms_mul c f M
    show sms (fun i => c * f i) M + c * f (M + 1) = c * (sms f M + f (M + 1))
    rw [ih]; grind
theorem sms_ext {f g : Nat → Int} : ∀ M : Nat, (∀ i, i ≤ M → f i = g i) → sms f M = sms g M
  | 0, h => h 0 (Nat.le_refl _)
  | M + 1, h => by
    rw [sms, sms, sms_ext M fun i hi => h i (by omega), h (M + 1) (Nat.le_refl _)]
theorem sms_cong {W : Int} {f g : Nat → Int} : ∀ M : Nat, (∀ i, i ≤ M → Mo W (f i) (g i)) → Mo W (sms f M) (sms g M)
  | 0, h => h 0 (Nat.le_refl _)
  | M + 1, h => (sms_cong M fun i hi => h i (by omega)).add (h (M + 1) (Nat.le_refl _))
/-- a triangle of products, by rows and by columns -/
theorem tri (e f : Nat → Int) : ∀ N : Nat, sms (fun n => sms (fun i => e i * f (n - i)) n) N = sms (fun i => e i * sms f (N - i)) N
  | 0 => rfl
  | N + 1 => by
    have ih := tri e f N
    have e1 : sms (fun n => sms (fun i => e i * f (n - i)) n) (N + 1) = sms (fun n => sms (fun i => e i * f (n - i)) n) N + sms (fun i => e i * f (N + 1 - i)) (N + 1) := rfl
    have e2 : sms (fun i => e i * f (N + 1 - i)) (N + 1) = sms (fun i => e i * f (N + 1 - i)) N + e (N + 1) * f (N + 1 - (N + 1)) := rfl
    have e3 : sms (fun i => e i * sms f (N + 1 - i)) (N + 1) = sms (fun i => e i * sms f (N + 1 - i)) N + e (N + 1) * sms f (N + 1 - (N + 1)) := rfl
    have e4 : sms (fun i => e i * sms f (N + 1 - i)) N = sms (fun i => e i * sms f (N - i) + e i * f (N + 1 - i)) N := sms_ext N fun i hi => by
      rw [show N + 1 - i = (N - i) + 1 by omega, sms]; grind
    rw [e1, ih, e2, e3, e4, sms_add, Nat.sub_self]
    show _ = _ + e (N + 1) * f 0
    omega
theorem binom2 (y w : Int) : ∀ n M : Nat, n ≤ M → sms (fun i => cb n i * y ^ i * w ^ (M - i)) M = (y + w) ^ n * w ^ (M - n)
  | 0, M, _ => by
    cases M with
    | zero => show cb 0 0 * y ^ 0 * w ^ (0 - 0) = _; simp [cb_zero]
    | succ M =>
      rw [sms_front]
      have z : sms (fun i => cb 0 (i + 1) * y ^ (i + 1) * w ^ (M + 1 - (i + 1))) M = 0 := by
        have : sms (fun i => cb 0 (i + 1) * y ^ (i + 1) * w ^ (M + 1 - (i + 1))) M = sms (fun i => 0 * (0 : Int)) M := sms_ext M fun i _ => by rw [cb_big 0 (i + 1) (by omega)]; simp
        rw [this, sms_mul, Int.zero_mul]
      rw [z, cb_zero]; simp
  | n + 1, M, h => by
    obtain ⟨m, rfl⟩ : ∃ m, M = m + 1 := ⟨M - 1, by omega⟩
    have i1 := binom2 y w n (m + 1) (by omega)
    have i2 := binom2 y w n m (by omega)
    rw [sms_front] at i1 ⊢
    have e : sms (fun i => cb (n + 1) (i + 1) * y ^ (i + 1) * w ^ (m + 1 - (i + 1))) m = sms (fun i => cb n (i + 1) * y ^ (i + 1) * w ^ (m + 1 - (i + 1)) + y * (cb n i * y ^ i * w ^ (m - i))) m := sms_ext m fun i hi => by
      rw [cb_step, show m + 1 - (i + 1) = m - i by omega, Int.pow_succ]; grind
    rw [e, sms_add, sms_mul, i2]
    rw [cb_zero] at i1 ⊢
    rw [show m + 1 - n = (m - n) + 1 by omega, Int.pow_succ] at i1
    rw [show m + 1 - (n + 1) = m - n by omega, Int.pow_succ (y + w)]
    grind
theorem cb_fac : ∀ n k : Nat, k ≤ n → cb n k * fac k * fac (n - k) = fac n
  | n, 0, _ => by rw [cb_zero, fac, Nat.sub_zero]; omega
  | 0, k + 1, h => by omega
  | n + 1, k + 1, h => by
    have ih := cb_fac n k (by omega)
    have ab := cb_abs n k
    rw [show n + 1 - (k + 1) = n - k by omega, fac, fac, ← ih]
    grind
def Nr (p y : Int) : Prop := Mo (p ^ 1) y 0 ∧ (p = 2 → Mo (p ^ 2) y 0)
theorem Nr.add {p y w : Int} (h : Nr p y) (g : Nr p w) : Nr p (y + w) := by
  refine ⟨by have := h.1.add g.1; rwa [Int.add_zero] at this, fun e => by have := (h.2 e).add (g.2 e); rwa [Int.add_zero] at this⟩
theorem Nr.smul {p y : Int} (c : Int) (h : Nr p y) : Nr p (c * y) := by
  refine ⟨?_, fun e => ?_⟩
  · exact (Mo.of_eq (Int.mul_comm _ _)).trans (h.1.zero_mul c)
  · exact (Mo.of_eq (Int.mul_comm _ _)).trans ((h.2 e).zero_mul c)
theorem half {p y : Int} (hp : p ∈ primesL) (h : Nr p y) {E a i N : Nat} {e : Nat → Int} (he : ExQ p E y e N) (hi : i ≤ N) (ha : a ≤ E) (ha2 : a ≤ (i + 1) / 2) : Mo (p ^ a) (e i) 0 := by
  have hpb := primesL_le p hp
  by_cases i0 : i = 0
  · subst i0
    have : a = 0 := by omega
    subst this
    exact ⟨e 0, by simp⟩
  · have w := wf_le hpb.1 i (by omega)
    by_cases e2 : p = 2
    · exact ex_tail hp (he.low ha) (h.2 e2) hi (by omega)
    · refine ex_tail hp (he.low ha) h.1 hi ?_
      have w2 := wf_lt hpb.1 i (by omega)
      have : 2 * (wf p i : Int) ≤ (p - 1) * (wf p i : Int) := Int.mul_le_mul_of_nonneg_right (by omega) (by omega)
      omega
theorem wf_add {p : Int} (hp : p ∈ primesL) {n i : Nat} (hi : i ≤ n) : wf p i + wf p (n - i) ≤ wf p n := by
  have hpb := primesL_le p hp
  obtain ⟨a1, a2⟩ := mfc_spec hp i
  obtain ⟨b1, b2⟩ := mfc_spec hp (n - i)
  obtain ⟨c1, c2⟩ := mfc_spec hp n
  have cf := cb_fac n i hi
  rcases Nat.lt_or_ge (wf p n) (wf p i + wf p (n - i)) with g | g
  · exfalso
    obtain ⟨d, hd⟩ : ∃ d, wf p i + wf p (n - i) = wf p n + (d + 1) := ⟨wf p i + wf p (n - i) - wf p n - 1, by omega⟩
    have e : mfc p n * p ^ wf p n = cb n i * mfc p i * mfc p (n - i) * p ^ (d + 1) * p ^ wf p n := by
      rw [← c1, ← cf, a1, b1]
      have : p ^ wf p i * p ^ wf p (n - i) = p ^ wf p n * p ^ (d + 1) := by rw [← Int.pow_add, ← Int.pow_add, hd]
      grind
    have e2 := Int.eq_of_mul_eq_mul_right (Int.pow_ne_zero (show p ≠ 0 by omega)) e
    rw [e2, Int.pow_succ, ← Int.mul_assoc, Int.mul_emod_left] at c2
    exact c2 rfl
  · exact g
theorem cb_wf {p : Int} (hp : p ∈ primesL) {n i : Nat} (hi : i ≤ n) : Mo (p ^ (wf p n - (wf p i + wf p (n - i)))) (cb n i) 0 := by
  obtain ⟨a1, a2⟩ := mfc_spec hp i
  obtain ⟨b1, b2⟩ := mfc_spec hp (n - i)
  obtain ⟨c1, c2⟩ := mfc_spec hp n
  have cf := cb_fac n i hi
  have w := wf_add hp hi
  refine Mo.canc hp (prime_mulI hp a2 b2) (v := wf p i + wf p (n - i)) ?_
  rw [show wf p n - (wf p i + wf p (n - i)) + (wf p i + wf p (n - i)) = wf p n by omega, Int.mul_zero]
  refine Mo.zero (mfc p n) ?_
  have e : mfc p i * mfc p (n - i) * p ^ (wf p i + wf p (n - i)) * cb n i = cb n i * fac i * fac (n - i) := by rw [a1, b1, Int.pow_add]; grind
  rw [e, cf, c1, Int.mul_comm]
theorem nr_wf {p y : Int} (hp : p ∈ primesL) (h : Nr p y) (i : Nat) : Mo (p ^ wf p i) (y ^ i) 0 := by
  have hpb := primesL_le p hp
  have z := pow_mo0 h.1 i
  by_cases i0 : i = 0
  · subst i0; exact ⟨y ^ 0, by simp [wf]⟩
  · have w := wf_le hpb.1 i (by omega)
    exact z.low (by omega)
theorem conv {p y w : Int} (hp : p ∈ primesL) (hy : Nr p y) (hw : Nr p w) {E N : Nat} {e f : Nat → Int} (he : ExQ p E y e N) (hf : ExQ p E w f N) : ExQ p E (y + w) (fun n => sms (fun i => e i * f (n - i)) n) N := by
  intro n hn
  have b := binom2 y w n n (Nat.le_refl _)
  rw [Nat.sub_self, Int.pow_zero, Int.mul_one] at b
  rw [← b, ← sms_mul]
  refine sms_cong n fun i hi => ?_
  have cf := cb_fac n i hi
  have wa := wf_add hp hi
  have x1 := he i (by omega)
  have x2 := hf (n - i) (by omega)
  obtain ⟨b1, _⟩ := mfc_spec hp (n - i)
  have s1 := Mo.scaleP x1 (Mo.zero (m := p ^ wf p (n - i)) (mfc p (n - i) * f (n - i)) (show fac (n - i) * f (n - i) = _ by rw [b1]; grind))
  have s2 := Mo.scaleP x2 (nr_wf hp hy i)
  have s3 : Mo (p ^ (E + (wf p i + wf p (n - i)))) (fac i * e i * (fac (n - i) * f (n - i))) (y ^ i * w ^ (n - i)) := by
    rw [show E + wf p i + wf p (n - i) = E + (wf p i + wf p (n - i)) by omega] at s1
    rw [show E + wf p (n - i) + wf p i = E + (wf p i + wf p (n - i)) by omega] at s2
    exact s1.trans ((Mo.of_eq (Int.mul_comm _ _)).trans (s2.trans (.of_eq (Int.mul_comm _ _))))
  have s4 := Mo.scaleP s3 (cb_wf hp hi)
  rw [show E + (wf p i + wf p (n - i)) + (wf p n - (wf p i + wf p (n - i))) = E + wf p n by omega] at s4
  refine (Mo.of_eq ?_).trans (s4.trans (.of_eq (by grind)))
  rw [← cf]
  grind
def Ex (p : Int) (E : Nat) (y W : Int) : Prop := ∃ (e : Nat → Int), ExQ p E y e (2 * E + 1) ∧ Mo (p ^ E) W (sms e (2 * E + 1))
theorem exq_uniq {p y : Int} (hp : p ∈ primesL) {E N : Nat} {e f : Nat → Int} (he : ExQ p E y e N) (hf : ExQ p E y f N) : ∀ i, i ≤ N → Mo (p ^ E) (e i) (f i) := fun i hi => by
  obtain ⟨a1, a2⟩ := mfc_spec hp i
  refine Mo.canc hp a2 (v := wf p i) ?_
  rw [← a1]
  exact (he i hi).trans (hf i hi).symm
theorem Ex.uniq {p y W Z : Int} (hp : p ∈ primesL) {E : Nat} (h : Ex p E y W) (g : Ex p E y Z) : Mo (p ^ E) W Z := by
  obtain ⟨e, he, hW⟩ := h
  obtain ⟨f, hf, hZ⟩ := g
  exact hW.trans ((sms_cong _ fun i hi => exq_uniq hp he hf i hi).trans hZ.symm)
theorem Ex.low {p y W : Int} (hp : p ∈ primesL) (hy : Nr p y) {E F : Nat} (h : Ex p E y W) (hF : F ≤ E) : Ex p F y W := by
  obtain ⟨e, he, hW⟩ := h
  refine ⟨e, fun k hk => (he.low hF) k (by omega), (hW.low hF).trans ?_⟩
  exact sms_tail _ (by omega) fun k k1 k2 => half hp hy he k2 hF (by omega)
theorem Ex.add {p y w W Z : Int} (hp : p ∈ primesL) (hy : Nr p y) (hw : Nr p w) {E : Nat} (h : Ex p E y W) (g : Ex p E w Z) : Ex p E (y + w) (W * Z) := by
  obtain ⟨e, he, hW⟩ := h
  obtain ⟨f, hf, hZ⟩ := g
  obtain ⟨N, hN⟩ : ∃ N, N = 2 * E + 1 := ⟨_, rfl⟩
  rw [← hN] at he hW hf hZ
  refine ⟨_, by rw [← hN]; exact conv hp hy hw he hf, ?_⟩
  rw [← hN, tri]
  have s : Mo (p ^ E) (sms e N * sms f N) (sms (fun i => e i * sms f (N - i)) N) := by
    rw [Int.mul_comm, ← sms_mul]
    refine sms_cong N fun i hi => ?_
    rw [Int.mul_comm]
    obtain ⟨a, ha⟩ : ∃ a, a = min E ((i + 1) / 2) := ⟨_, rfl⟩
    have ea := half hp hy he hi (show a ≤ E by omega) (by omega)
    have ft : Mo (p ^ (E - a)) (sms f N) (sms f (N - i)) := sms_tail N (by omega) fun k k1 k2 => half hp hw hf k2 (by omega) (by omega)
    have t := Mo.scaleP ft ea
    rw [show E - a + a = E by omega] at t
    exact (Mo.of_eq (Int.mul_comm _ _)).trans (t.trans (.of_eq (Int.mul_comm _ _)))
  exact (hW.mul hZ).trans s
theorem ex_zero (p : Int) (E : Nat) : Ex p E 0 1 := by
  refine ⟨fun k => if k = 0 then 1 else 0, fun k hk => ?_, ?_⟩
  · by_cases k0 : k = 0
    · subst k0; exact .of_eq (by simp [fac])
    · refine .of_eq ?_
      show fac k * (if k = 0 then 1 else 0) = 0 ^ k
      rw [if_neg k0, Int.mul_zero, Int.zero_pow (by omega)]
  · have : ∀ M, sms (fun k => if k = 0 then (1 : Int) else 0) M = 1 := fun M => by
      induction M with
      | zero => rfl
      | succ M ih => rw [sms, ih]; simp
    rw [this]; exact .refl _ _
theorem Ex.pow {p y W : Int} (hp : p ∈ primesL) (hy : Nr p y) {E : Nat} (h : Ex p E y W) : ∀ n : Nat, Ex p E (n * y) (W ^ n)
  | 0 => by rw [Int.pow_zero]; simpa using ex_zero p E
  | n + 1 => by
    have ih := (Ex.pow hp hy h n).add hp (hy.smul n) hy h
    rw [Int.pow_succ]
    have e : ((n + 1 : Nat) : Int) * y = (n : Int) * y + y := by rw [show ((n + 1 : Nat) : Int) = (n : Int) + 1 by omega]; grind
    rw [e]
    exact ih
theorem Lg.inj {p x y T : Int} (hp : p ∈ primesL) (hx : Nr p x) (hy : Nr p y) {E : Nat} (h : Lg p E x T) (g : Lg p E y T) : Mo (p ^ E) x y := by
  have hpb := primesL_le p hp
  obtain ⟨K0, h⟩ := h
  obtain ⟨K1, g⟩ := g
  have e := (h (K0 + K1) (by omega)).symm.trans (g (K0 + K1) (by omega))
  obtain ⟨K, hK⟩ : ∃ K, K = K0 + K1 := ⟨_, rfl⟩
  rw [← hK] at e
  by_cases d0 : x - y = 0
  · exact .of_eq (by omega)
  obtain ⟨u, j, e1, e2, _⟩ := vp_spec hpb.1 d0
  rcases Nat.lt_or_ge j E with jE | jE
  · exfalso
    have near : ∀ s : Nat, Mo (p ^ s) (x - y) 0 → s ≤ j := fun s hs => by
      rcases Nat.lt_or_ge j s with g | g
      · exfalso
        obtain ⟨z, hz⟩ := hs
        rw [Int.zero_add, e1] at hz
        obtain ⟨d, hd⟩ : ∃ d, s = j + (d + 1) := ⟨s - j - 1, by omega⟩
        rw [hd, Int.pow_add] at hz
        have pj : p ^ j ≠ 0 := Int.pow_ne_zero (by omega)
        have : u = p ^ (d + 1) * z := Int.eq_of_mul_eq_mul_right pj (by rw [hz]; grind)
        rw [this, Int.pow_succ, Int.mul_assoc, Int.mul_comm p z, ← Int.mul_assoc, Int.mul_emod_left] at e2
        exact e2 rfl
      · exact g
    have j1 := near 1 (by have := hx.1.sub hy.1; rwa [Int.sub_self] at this)
    have j2 : p = 2 → 2 ≤ j := fun q => near 2 (by have := (hx.2 q).sub (hy.2 q); rwa [Int.sub_self] at this)
    have B1 : (1 + y) % p ≠ 0 := by
      obtain ⟨z, hz⟩ := hy.1
      rw [hz, Int.pow_succ, Int.pow_zero, Int.zero_add, Int.one_mul, Int.add_mul_emod_self_left, Int.emod_eq_of_lt (by omega) (by omega)]
      decide
    obtain ⟨y', q1, q2⟩ := lte_t hp B1 j u j1 j2 K
    have xe : 1 + x = 1 + y + p ^ j * u := by rw [Int.mul_comm]; omega
    rw [xe, q1] at e
    obtain ⟨z, hz⟩ := e
    have f : p ^ (j + K) * y' = p ^ (E + K) * z := by omega
    obtain ⟨d, hd⟩ : ∃ d, E + K = (j + K) + (d + 1) := ⟨E - j - 1, by omega⟩
    rw [hd, Int.pow_add p (j + K) (d + 1)] at f
    have pj : p ^ (j + K) ≠ 0 := Int.pow_ne_zero (by omega)
    have : y' = p ^ (d + 1) * z := Int.eq_of_mul_eq_mul_left pj (by rw [f]; grind)
    have q3 := q2 e2
    rw [this, Int.pow_succ, Int.mul_assoc, Int.mul_comm p z, ← Int.mul_assoc, Int.mul_emod_left] at q3
    exact q3 rfl
  · obtain ⟨d, rfl⟩ : ∃ d, j = E + d := ⟨j - E, by omega⟩
    refine ⟨u * p ^ d, ?_⟩
    rw [Int.pow_add] at e1
    have : u * (p ^ E * p ^ d) = p ^ E * (u * p ^ d) := by grind
    omega
end PM
set_option Elab.async false
set_option linter.all false
set_option maxRecDepth 100000
set_option autoImplicit false
set_option exponentiation.threshold 20000
namespace PM
open PySem PySem.Spec L2 PL
open PyProof.Rows hiding St
def slp : Nat → List Int → List Int
  | _, [] => []
  | n, a :: r => (n : Int) * a :: slp (n + 1) r
def at0 (l : List Int) (n : Nat) : Int := l.getD n 0
def prow (a b : List Int) (n : Nat) : Nat → Int
  | 0 => 0
  | k + 1 => prow a b n k + (if k ≤ n then at0 a k * at0 b (n - k) else 0)
/-- the list while row k is added, up to its m-th number -/
def Part (a b L : List Int) (k m : Nat) : Prop := L.length = a.length + b.length - 1 ∧ ∀ n, n < L.length → at0 L n = prow a b n k + (if k ≤ n ∧ n - k < m then at0 a k * at0 b (n - k) else 0)
theorem Part.next {a b L : List Int} {k m : Nat} (h : Part a b L k m) (hk : k < a.length) (hm : m < b.length) : Part a b (L.set (k + m) (at0 L (k + m) + at0 a k * at0 b m)) k (m + 1) := by
  obtain ⟨h1, h2⟩ := h
  have kl : k + m < L.length := by omega
  refine ⟨by rw [List.length_set, h1], fun n hn => ?_⟩
  rw [List.length_set] at hn
  by_cases e : n = k + m
  · subst e
    have : at0 (L.set (k + m) (at0 L (k + m) + at0 a k * at0 b m)) (k + m) = at0 L (k + m) + at0 a k * at0 b m := by
      unfold at0
      rw [List.getD_eq_getElem?_getD, List.getElem?_set_self kl, Option.getD_some]
    rw [this, h2 _ kl, if_neg (by omega), if_pos (by omega), Int.add_zero, Nat.add_sub_cancel_left]
  · have : at0 (L.set (k + m) (at0 L (k + m) + at0 a k * at0 b m)) n = at0 L n := by
      unfold at0
      rw [List.getD_eq_getElem?_getD, List.getElem?_set_ne (fun z => e z.symm), ← List.getD_eq_getElem?_getD]
    rw [this, h2 n hn]
    congr 1
    by_cases q : k ≤ n ∧ n - k < m
    · rw [if_pos q, if_pos (by omega)]
    · rw [if_neg q, if_neg (by omega)]
end PM
set_option Elab.async false
set_option linter.all false
set_option maxRecDepth 100000
set_option autoImplicit false
set_option exponentiation.threshold 20000
namespace PM
def ev : List Int → Int → Int
  | [], _ => 0
  | c :: r, x => c + x * ev r x
def syn (d : Int) : List Int → List Int
  | [] => []
  | c :: r => (c + d * (syn d r).headD 0) :: syn d r
theorem syn_len (d : Int) : ∀ cs : List Int, (syn d cs).length = cs.length
  | [] => rfl
  | c :: r => by rw [syn, List.length_cons, List.length_cons, syn_len d r]
def shf (d : Int) : Nat → List Int → List Int
  | 0, cs => cs
  | n + 1, cs => match syn d cs with
    | [] => []
    | v :: q => v :: shf d n q
theorem shf_len (d : Int) : ∀ (n : Nat) (cs : List Int), (shf d n cs).length = cs.length
  | 0, _ => rfl
  | n + 1, cs => by
    have l := syn_len d cs
    rw [shf]
    cases h : syn d cs with
    | nil => rw [← l, h]
    | cons v q => rw [← l, h]; simp [shf_len d n q]
/-- each number times a rising power -/
def scl (p : Int) : Int → List Int → List Int
  | _, [] => []
  | b, c :: r => c * b :: scl p (b * p) r
theorem scl_len (p : Int) : ∀ (b : Int) (cs : List Int), (scl p b cs).length = cs.length
  | _, [] => rfl
  | b, c :: r => by rw [scl, List.length_cons, List.length_cons, scl_len]
theorem ev_mul (k z : Int) : ∀ cs : List Int, ev (cs.map fun c => k * c) z = k * ev cs z
  | [] => by simp [ev]
  | c :: r => by rw [List.map_cons, ev, ev, ev_mul k z r]; grind
/-- bounds -/
theorem syn_bd {d : Int} {m : Nat} (hd : d.natAbs < 128 - 1) : ∀ cs : List Int, (∀ c ∈ cs, c.natAbs < 2 ^ m) → ∀ c ∈ syn d cs, c.natAbs < 2 ^ (m + 7 * cs.length)
  | [], _ => by simp [syn]
  | c :: r, h => by
    have ih := syn_bd hd r fun x hx => h x (List.mem_cons_of_mem _ hx)
    intro x hx
    rw [syn] at hx
    rw [List.length_cons]
    have up : (2 : Nat) ^ (m + 7 * (r.length + 1)) = 2 ^ (m + 7 * r.length) * 128 := by rw [show m + 7 * (r.length + 1) = m + 7 * r.length + 7 by omega, Nat.pow_add]
    have lo : (2 : Nat) ^ m ≤ 2 ^ (m + 7 * r.length) := Nat.pow_le_pow_right (by omega) (by omega)
    rw [up]
    rcases List.mem_cons.mp hx with hx | hx
    · subst hx
      have hc := h c List.mem_cons_self
      have hh : ((syn d r).headD 0).natAbs < 2 ^ (m + 7 * r.length) := by
        cases hs : syn d r with
        | nil => simpa using Nat.pow_pos (by omega : 0 < 2)
        | cons a l => exact ih a (by rw [hs]; exact List.mem_cons_self)
      have t := Int.natAbs_add_le c (d * (syn d r).headD 0)
      rw [Int.natAbs_mul] at t
      have m1 : d.natAbs * ((syn d r).headD 0).natAbs ≤ 126 * 2 ^ (m + 7 * r.length) := Nat.mul_le_mul (by omega) (by omega)
      omega
    · exact Nat.lt_of_lt_of_le (ih x hx) (by omega)
theorem shf_bd {d : Int} (hd : d.natAbs < 128 - 1) : ∀ (n : Nat) (m : Nat) (cs : List Int) (L : Nat), cs.length ≤ L → (∀ c ∈ cs, c.natAbs < 2 ^ m) → ∀ c ∈ shf d n cs, c.natAbs < 2 ^ (m + 7 * L * n)
  | 0, m, cs, L, _, h => by simpa [shf] using h
  | n + 1, m, cs, L, hl, h => by
    have b := syn_bd hd cs h
    have l := syn_len d cs
    intro x hx
    rw [shf] at hx
    have up : ∀ k : Nat, k ≤ m + 7 * L * (n + 1) → (2 : Nat) ^ k ≤ 2 ^ (m + 7 * L * (n + 1)) := fun k hk => Nat.pow_le_pow_right (by omega) hk
    have mm : 7 * L * (n + 1) = 7 * L * n + 7 * L := by rw [Nat.mul_succ]
    have pos : 0 ≤ 7 * L * n := Nat.zero_le _
    cases hs : syn d cs with
    | nil => rw [hs] at hx; cases hx
    | cons v q =>
      rw [hs] at hx b l
      have b' : ∀ c ∈ v :: q, c.natAbs < 2 ^ (m + 7 * L) := fun c hc => Nat.lt_of_lt_of_le (b c hc) (Nat.pow_le_pow_right (by omega) (by omega))
      rcases List.mem_cons.mp hx with hx | hx
      · subst hx
        exact Nat.lt_of_lt_of_le (b' x List.mem_cons_self) (up _ (by omega))
      · have ih := shf_bd hd n (m + 7 * L) q L (by rw [List.length_cons] at l; omega) (fun c hc => b' c (List.mem_cons_of_mem _ hc)) x hx
        exact Nat.lt_of_lt_of_le ih (up _ (by omega))
theorem scl_bd {p : Int} (hp : p.natAbs < 128) : ∀ (cs : List Int) (b : Int) (m k : Nat), b.natAbs < 2 ^ k → (∀ c ∈ cs, c.natAbs < 2 ^ m) → ∀ c ∈ scl p b cs, c.natAbs < 2 ^ (m + k + 7 * cs.length)
  | [], b, m, k, _, _ => by simp [scl]
  | c :: r, b, m, k, hb, h => by
    intro x hx
    rw [scl] at hx
    rcases List.mem_cons.mp hx with hx | hx
    · subst hx
      rw [Int.natAbs_mul]
      have : c.natAbs * b.natAbs < 2 ^ m * 2 ^ k := Nat.mul_lt_mul'' (h c List.mem_cons_self) hb
      rw [← Nat.pow_add] at this
      exact Nat.lt_of_lt_of_le this (Nat.pow_le_pow_right (by omega) (by omega))
    · have hb' : (b * p).natAbs < 2 ^ (k + 7) := by
        rw [Int.natAbs_mul, Nat.pow_add]
        exact Nat.mul_lt_mul'' hb (by omega)
      have ih := scl_bd hp r (b * p) m (k + 7) hb' (fun c hc => h c (List.mem_cons_of_mem _ hc)) x hx
      rw [List.length_cons]
      exact Nat.lt_of_lt_of_le ih (Nat.pow_le_pow_right (by omega) (by omega))
end PM
namespace PM
open PL (leastI leastI_mem leastI_le)
/-- the last number is not 0 -/
def NzL (cs : List Int) : Prop := ∃ x, cs.getLast? = some x ∧ x ≠ 0
theorem NzL.ne {cs : List Int} (h : NzL cs) : cs ≠ [] := fun z => by obtain ⟨x, e, _⟩ := h; rw [z] at e; cases e
theorem NzL.tail {c d : Int} {r : List Int} (h : NzL (c :: d :: r)) : NzL (d :: r) := by
  obtain ⟨x, e, n⟩ := h; exact ⟨x, by rw [List.getLast?_cons_cons] at e; exact e, n⟩
theorem NzL.cons {c : Int} {r : List Int} (h : NzL r) : NzL (c :: r) := by
  cases r with
  | nil => exact absurd rfl h.ne
  | cons d r => obtain ⟨x, e, n⟩ := h; exact ⟨x, by rw [List.getLast?_cons_cons]; exact e, n⟩
theorem NzL.mem {cs : List Int} (h : NzL cs) : ∃ c ∈ cs, c ≠ 0 := by
  obtain ⟨x, e, n⟩ := h; exact ⟨x, List.mem_of_getLast? e, n⟩
theorem syn_nz (d : Int) : ∀ cs : List Int, NzL cs → NzL (syn d cs)
  | [], h => absurd rfl h.ne
  | [c], h => by simpa [syn] using h
  | c :: a :: r, h => by
    have ih := syn_nz d (a :: r) h.tail
    rw [syn]; exact ih.cons
theorem shf_nz (d : Int) : ∀ (n : Nat) (cs : List Int), NzL cs → NzL (shf d n cs)
  | 0, _, h => h
  | n + 1, cs, h => by
    have s := syn_nz d cs h
    rw [shf]
    cases hs : syn d cs with
    | nil => exact absurd hs s.ne
    | cons v q =>
      rw [hs] at s
      cases q with
      | nil =>
        dsimp only
        have : shf d n [] = [] := List.length_eq_zero_iff.mp (by rw [shf_len]; rfl)
        rw [this]; exact s
      | cons a r => exact (shf_nz d n (a :: r) s.tail).cons
theorem scl_nz {p : Int} (hp : p ≠ 0) : ∀ (cs : List Int) (b : Int), b ≠ 0 → NzL cs → NzL (scl p b cs)
  | [], _, _, h => absurd rfl h.ne
  | [c], b, hb, h => by
    obtain ⟨x, e, n⟩ := h
    cases e
    exact ⟨c * b, rfl, Int.mul_ne_zero n hb⟩
  | c :: a :: r, b, hb, h => (scl_nz hp (a :: r) (b * p) (Int.mul_ne_zero hb hp) h.tail).cons
theorem nz_of_map {k : Int} {qs : List Int} (h : NzL (qs.map fun q => k * q)) : NzL qs := by
  obtain ⟨x, e, n⟩ := h
  rw [List.getLast?_map] at e
  cases hq : qs.getLast? with
  | none => rw [hq] at e; cases e
  | some y => rw [hq] at e; cases e; exact ⟨y, hq, fun z => n (by rw [z]; simp)⟩
/-- all numbers so many times divided -/
def dvs (p : Int) (n : Nat) (cs : List Int) : List Int := cs.map fun c => c / p ^ n
theorem dvs_len (p : Int) (n : Nat) (cs : List Int) : (dvs p n cs).length = cs.length := List.length_map ..
noncomputable def exps (p : Int) (cs : List Int) : List Int := (cs.filter fun c => decide (c ≠ 0)).map (vp p)
noncomputable def lfN (p : Int) (cs : List Int) : Nat := (leastI (exps p cs)).toNat
noncomputable def lfQ (p : Int) (cs : List Int) : List Int := dvs p (lfN p cs) cs
theorem lfQ_len (p : Int) (cs : List Int) : (lfQ p cs).length = cs.length := dvs_len ..
theorem exps_ne {p : Int} {cs : List Int} (h : NzL cs) : exps p cs ≠ [] := by
  obtain ⟨c, hc, n⟩ := h.mem
  intro z
  unfold exps at z
  rw [List.map_eq_nil_iff] at z
  have : c ∈ cs.filter fun c => decide (c ≠ 0) := List.mem_filter.mpr ⟨hc, decide_eq_true n⟩
  rw [z] at this; cases this
theorem exps_mem {p x : Int} {cs : List Int} (h : x ∈ exps p cs) : ∃ c ∈ cs, c ≠ 0 ∧ x = vp p c := by
  unfold exps at h
  obtain ⟨c, hc, rfl⟩ := List.mem_map.mp h
  obtain ⟨h1, h2⟩ := List.mem_filter.mp hc
  exact ⟨c, h1, of_decide_eq_true h2, rfl⟩
theorem vp_nn {p c : Int} (hp : 2 ≤ p) (h : c ≠ 0) : 0 ≤ vp p c := by
  obtain ⟨m, v, e, hm, hv⟩ := vp_spec hp h
  rw [hv]; omega
theorem lfN_eq {p : Int} {cs : List Int} (hp : 2 ≤ p) (h : NzL cs) : leastI (exps p cs) = lfN p cs := by
  obtain ⟨c, hc, n, e⟩ := exps_mem (leastI_mem (exps_ne (p := p) h))
  have := vp_nn hp n
  unfold lfN; omega
theorem lfN_dvd {p : Int} {cs : List Int} (hp : 2 ≤ p) (h : NzL cs) : ∀ c ∈ cs, c = p ^ lfN p cs * (c / p ^ lfN p cs) := by
  intro c hc
  have P : p ^ lfN p cs ≠ 0 := Int.pow_ne_zero (by omega)
  by_cases z : c = 0
  · subst z; simp
  · obtain ⟨m, v, e, hm, hv⟩ := vp_spec hp z
    have l : leastI (exps p cs) ≤ vp p c := leastI_le _ (by
      unfold exps
      exact List.mem_map.mpr ⟨c, List.mem_filter.mpr ⟨hc, decide_eq_true z⟩, rfl⟩)
    rw [lfN_eq hp h, hv] at l
    obtain ⟨k, rfl⟩ : ∃ k, v = lfN p cs + k := ⟨v - lfN p cs, by omega⟩
    rw [Int.mul_ediv_cancel']
    exact ⟨m * p ^ k, by rw [e, Int.pow_add]; grind⟩
theorem lfQ_eq {p : Int} {cs : List Int} (hp : 2 ≤ p) (h : NzL cs) : cs = (lfQ p cs).map fun q => p ^ lfN p cs * q := by
  unfold lfQ dvs
  rw [List.map_map]
  conv => lhs; rw [← List.map_id cs]
  exact List.map_congr_left fun c hc => lfN_dvd hp h c hc
theorem lfQ_no {p : Int} {cs : List Int} (hp : 2 ≤ p) (h : NzL cs) : ∃ q ∈ lfQ p cs, q % p ≠ 0 := by
  obtain ⟨c, hc, n, e⟩ := exps_mem (leastI_mem (exps_ne (p := p) h))
  obtain ⟨m, v, e2, hm, hv⟩ := vp_spec hp n
  have l := lfN_eq hp h
  refine ⟨c / p ^ lfN p cs, List.mem_map.mpr ⟨c, hc, rfl⟩, ?_⟩
  have : v = lfN p cs := by rw [hv] at e; omega
  rw [← this, e2, Int.mul_ediv_cancel _ (Int.pow_ne_zero (by omega))]
  exact hm
theorem lfQ_nz {p : Int} {cs : List Int} (hp : 2 ≤ p) (h : NzL cs) : NzL (lfQ p cs) := by
  have e := lfQ_eq hp h
  exact nz_of_map (k := p ^ lfN p cs) (by rw [← e]; exact h)
theorem lfQ_bd {p : Int} {cs : List Int} {m : Nat} (h : ∀ c ∈ cs, c.natAbs < 2 ^ m) : ∀ c ∈ lfQ p cs, c.natAbs < 2 ^ m := by
  intro q hq
  unfold lfQ dvs at hq
  obtain ⟨c, hc, rfl⟩ := List.mem_map.mp hq
  exact Nat.lt_of_le_of_lt (Int.natAbs_ediv_le_natAbs c _) (h c hc)
theorem ev_lfQ {p : Int} {cs : List Int} (hp : 2 ≤ p) (h : NzL cs) (z : Int) : ev cs z = p ^ lfN p cs * ev (lfQ p cs) z := by
  conv => lhs; rw [lfQ_eq hp h]
  exact ev_mul _ z _
/-- seen from one figure more -/
noncomputable def on1 (p : Int) (cs : List Int) (d : Int) : List Int := scl p 1 (shf d (cs.length - 1) cs)
theorem on1_len (p : Int) (cs : List Int) (d : Int) : (on1 p cs d).length = cs.length := by unfold on1; rw [scl_len, shf_len]
theorem on1_nz {p : Int} {cs : List Int} (hp : 2 ≤ p) (h : NzL cs) (d : Int) : NzL (on1 p cs d) := scl_nz (by omega) _ 1 (by omega) (shf_nz d _ cs h)
theorem on1_bd {p : Int} {cs : List Int} {d : Int} {m : Nat} (hp : p.natAbs < 127) (hd : d.natAbs < 127) (hl : cs.length ≤ 9) (h : ∀ c ∈ cs, c.natAbs < 2 ^ m) : ∀ c ∈ on1 p cs d, c.natAbs < 2 ^ (m + 600) := by
  intro c hc
  have b1 := shf_bd (d := d) (by omega) (cs.length - 1) m cs 9 hl h
  have b2 := scl_bd (p := p) (by omega) _ 1 _ 1 (by decide) b1 c hc
  refine Nat.lt_of_lt_of_le b2 (Nat.pow_le_pow_right (by omega) ?_)
  rw [shf_len]
  have : 7 * 9 * (cs.length - 1) ≤ 7 * 9 * 8 := Nat.mul_le_mul_left _ (by omega)
  omega
/-- seen from a stem -/
noncomputable def seeL (p : Int) : Nat × List Int → List Int → Nat × List Int
  | s, [] => s
  | s, d :: ds => seeL p (s.1 + lfN p (on1 p s.2 d), lfQ p (on1 p s.2 d)) ds
noncomputable def see (p : Int) (cs : List Int) (ds : List Int) : Nat × List Int := seeL p (lfN p cs, lfQ p cs) ds
/-- a stem's sum -/
def sm (p : Int) : List Int → Int
  | [] => 0
  | d :: ds => d + p * sm p ds
structure Seen (p : Int) (cs : List Int) (s : Int) (k : Nat) (t : Nat × List Int) : Prop where
  ev : ∀ z, ev cs (s + p ^ k * z) = p ^ t.1 * ev t.2 z
  nz : NzL t.2
  no : ∃ q ∈ t.2, q % p ≠ 0
  len : t.2.length = cs.length
theorem Seen.start {p : Int} {cs : List Int} (hp : 2 ≤ p) (h : NzL cs) : Seen p cs 0 0 (lfN p cs, lfQ p cs) :=
  ⟨fun z => by rw [Int.zero_add, Int.pow_zero, Int.one_mul]; exact ev_lfQ hp h z, lfQ_nz hp h, lfQ_no hp h, lfQ_len ..⟩
end PM
namespace PM
open PySem PySem.Spec L2 PL
open PyProof.Rows hiding St
end PM
set_option Elab.async false
set_option linter.all false
set_option maxRecDepth 100000
set_option autoImplicit false
set_option exponentiation.threshold 20000
namespace PM
open PySem PySem.Spec L2 PL
open PyProof.Rows hiding St
end PM
set_option Elab.async false
set_option linter.all false
set_option maxRecDepth 100000
set_option autoImplicit false
set_option exponentiation.threshold 20000
namespace PM
open PySem PySem.Spec L2 PL
open PyProof.Rows hiding St
theorem last_at0 {l : List Int} (h : l ≠ []) : l.getLast? = some (at0 l (l.length - 1)) := by
  have : 0 < l.length := List.length_pos_iff.mpr h
  unfold at0
  rw [List.getLast?_eq_getElem?, List.getD_eq_getElem?_getD, List.getElem?_eq_getElem (by omega)]
  rfl
theorem NzL.at {l : List Int} (h : NzL l) : at0 l (l.length - 1) ≠ 0 := by
  obtain ⟨x, e, n⟩ := h
  rw [last_at0 (fun z => by rw [z] at e; cases e)] at e
  cases e; exact n
theorem PolyI.nz {cs : List Int} (h : PolyI cs) : NzL cs := by
  have ne : cs ≠ [] := fun z => by have := h.1; rw [z] at this; simp at this
  exact ⟨_, last_at0 ne, fun z => h.2.2 (by rw [last_at0 ne, z])⟩
end PM
namespace PM
open PySem PySem.Spec L2 PL
open PyProof.Rows hiding St
end PM
namespace PM
open PySem PySem.Spec L2 PL
open PyProof.Rows hiding St
end PM
set_option Elab.async false
set_option linter.all false
set_option maxRecDepth 100000
set_option autoImplicit false
namespace PM
open PySem PySem.Spec L2 PL
open PyProof.Rows hiding St
end PM
set_option Elab.async false
set_option linter.all false
set_option maxRecDepth 100000
set_option autoImplicit false
set_option exponentiation.threshold 20000
namespace PM
open PySem PySem.Spec L2 PL
open PyProof.Rows hiding St
def slo (as : List Int) : List Int := (slp 0 as).drop 1
structure Row where
  stem : List Int
  word : Str
  num : Int
noncomputable def nxt (p : Int) (t : Nat × List Int) (d : Int) : Nat × List Int := (t.1 + lfN p (on1 p t.2 d), lfQ p (on1 p t.2 d))
/-- what stands at a stem of the tree -/
structure At (m : Nat) (t : Nat × List Int) : Prop where
  nz : NzL t.2
  l2 : 2 ≤ t.2.length
  l9 : t.2.length ≤ 9
  bd : ∀ c ∈ t.2, c.natAbs < 2 ^ m
theorem At.next {p d : Int} {m : Nat} {t : Nat × List Int} (h : At m t) (hp : 2 ≤ p ∧ p < 127) (hd : d.natAbs < 127) : At (m + 600) (nxt p t d) :=
  ⟨lfQ_nz (by omega) (on1_nz (by omega) h.nz d), by show 2 ≤ (lfQ p _).length; rw [lfQ_len, on1_len]; exact h.l2, by show (lfQ p _).length ≤ 9; rw [lfQ_len, on1_len]; exact h.l9, lfQ_bd (on1_bd (by omega) hd h.l9 h.bd)⟩
end PM
set_option Elab.async false
set_option linter.all false
set_option maxRecDepth 100000
set_option autoImplicit false
namespace PM
open PL (leastI leastI_mem leastI_le)
end PM
set_option Elab.async false
set_option linter.all false
set_option maxRecDepth 100000
set_option autoImplicit false
namespace PM
open PL (leastI leastI_mem leastI_le)
def Cg (p : Int) : List Int → List Int → Prop
  | [], [] => True
  | a :: as, b :: bs => p ∣ a - b ∧ Cg p as bs
  | _, _ => False
theorem Cg.refl (p : Int) : ∀ l : List Int, Cg p l l
  | [] => trivial
  | a :: l => ⟨by rw [Int.sub_self]; exact ⟨0, by simp⟩, Cg.refl p l⟩
/-- the derivative -/
def dv : List Int → Int → Int
  | [], _ => 0
  | _ :: r, x => ev r x + x * dv r x
def On (p : Int) (qs : List Int) (d : Int) : Prop := ev qs d % p = 0 ∧ ev (slo qs) d % p = 0
/-- the way to a stem leads on -/
def Pth (p : Int) (cs : List Int) (s : List Int) : Prop := ∀ a e b, s = a ++ e :: b → (0 ≤ e ∧ e < p) ∧ On p (see p cs a).2 e
theorem Pth.nil {p : Int} {cs : List Int} : Pth p cs [] := fun a e b h => by
  have := congrArg List.length h
  simp at this
end PM
set_option Elab.async false
set_option linter.all false
set_option maxRecDepth 100000
set_option autoImplicit false
set_option exponentiation.threshold 20000
namespace PM
open PySem PySem.Spec L2 PL
open PyProof.Rows hiding St
end PM
set_option Elab.async false
set_option linter.all false
set_option maxRecDepth 100000
set_option autoImplicit false
set_option exponentiation.threshold 20000
namespace PM
open PySem PySem.Spec L2 PL
open PyProof.Rows hiding St
def hit (p z : Int) (r : Row) : Bool := (z - sm p r.stem) % p ^ r.stem.length == 0
theorem ok_stem (l : List Int) : okD 30 (.tup (l.map PV.int)) = true := by rw [okD_tup]; simp
end PM
set_option Elab.async false
set_option linter.all false
set_option maxRecDepth 100000
set_option autoImplicit false
set_option exponentiation.threshold 20000
namespace PM
open PySem PySem.Spec L2 PL
open PyProof.Rows hiding St
end PM
set_option Elab.async false
set_option linter.all false
set_option maxRecDepth 100000
set_option autoImplicit false
set_option exponentiation.threshold 20000
namespace PM
open PySem PySem.Spec L2 PL
open PyProof.Rows hiding St
def sq2 (ds : List Int) : Bool := (ds.drop 1).take 2 == ([0, 0] : List Int).take (ds.length - 1)
theorem sl2 (ds : List Int) (h : ds ≠ []) : ∃ a b : PV, slP (.tup (ds.map PV.int)) (some 1) (some 3) = .ok a ∧ slP (.tup [.int 0, .int 0]) none (some ((ds.length : Int) - 1)) = .ok b ∧ neP a b = .ok (.bl (!sq2 ds)) ∧ eqP a b = .ok (.bl (sq2 ds)) := by
  have l1 : 1 ≤ ds.length := List.length_pos_iff.mpr h
  have e1 : slP (.tup (ds.map PV.int)) (some 1) (some 3) = .ok (.tup (((ds.drop 1).take 2).map PV.int)) := by
    rw [slP_t, cut_both _ _ _ (by omega) (by omega), ← List.map_drop, ← List.map_take]; rfl
  have e2' : slP (.tup [.int 0, .int 0]) none (some ((ds.length : Int) - 1)) = .ok (.tup ((([0, 0] : List Int).take (ds.length - 1)).map PV.int)) := by
    rw [slP_t, cut_take _ _ (by omega), show ((ds.length : Int) - 1).toNat = ds.length - 1 by omega, List.map_take]; rfl
  refine ⟨_, _, e1, e2', ?_, ?_⟩
  · rw [neP_ok (ok_stem _) (ok_stem _), eqV_tt, eqVs_ints]; rfl
  · rw [eqP_ok (ok_stem _) (ok_stem _), eqV_tt, eqVs_ints]; rfl
end PM
set_option Elab.async false
set_option linter.all false
set_option maxRecDepth 100000
set_option autoImplicit false
set_option exponentiation.threshold 20000
namespace PM
open PySem PySem.Spec L2 PL
open PyProof.Rows hiding St
end PM
set_option Elab.async false
set_option linter.all false
set_option maxRecDepth 100000
set_option autoImplicit false
set_option exponentiation.threshold 20000
namespace PM
open PySem PySem.Spec L2 PL
open PyProof.Rows hiding St
/-- a fraction is alike, up to a stem's length, to its sum -/
def ins (p : Int) (r : Row) (q : Int × Int) : Bool := (q.1 - q.2 * sm p r.stem) % p ^ r.stem.length == 0
end PM
set_option Elab.async false
set_option linter.all false
set_option maxRecDepth 100000
set_option autoImplicit false
set_option exponentiation.threshold 20000
namespace PM
open PySem PySem.Spec L2 PL
open PyProof.Rows hiding St
end PM
set_option Elab.async false
set_option linter.all false
set_option maxRecDepth 100000
set_option autoImplicit false
namespace PM
open PySem PySem.Spec L2 PL
open PyProof.Rows hiding St
end PM
set_option Elab.async false
set_option linter.all false
set_option maxRecDepth 100000
set_option autoImplicit false
set_option exponentiation.threshold 20000
namespace PM
open PySem PySem.Spec L2 PL TL
open PyProof.Rows hiding St
/-- signs of the lower kind -/
def Asc (l : List Nat) : Prop := ∀ c ∈ l, c < 128
theorem Asc.take {a : List Nat} (h : Asc a) (n : Nat) : Asc (a.take n) := fun c z => h c ((List.take_sublist _ _).subset z)
theorem Asc.drop {a : List Nat} (h : Asc a) (n : Nat) : Asc (a.drop n) := fun c z => h c ((List.drop_sublist _ _).subset z)
theorem Asc.cons {c : Nat} {a : List Nat} (h : c < 128) (h2 : Asc a) : Asc (c :: a) := fun d z => (List.mem_cons.mp z).elim (fun e => e ▸ h) (h2 d)
theorem Asc.nil : Asc [] := fun _ z => nomatch z
@[simp] theorem iStrP_eq {f : Rho → R PV} {ρ : Rho} : iStrP f ρ = (f ρ).bind fun p => match p with
  | .str x => .ok (signsP x)
  | _ => .stuck := nr rfl
@[simp] theorem eM_eq {g : PV → PV → R PV} {f h : Rho → R PV} {ρ : Rho} : eM g f h ρ = (f ρ).bind fun p => match p with
  | .str _ => (h ρ).bind fun q => g p q
  | _ => .stuck := nr rfl
/-- the figures of a word -/
def figs (l : List Nat) : List Nat := if l.head? = some 45 then l.tail else l
end PM
set_option Elab.async false
set_option linter.all false
set_option maxRecDepth 100000
set_option autoImplicit false
namespace PL
open PySem PySem.Spec L2
open PyProof.Rows hiding St
theorem reps_lookup {K : PySem.W.Frag} {H : Hp} {O : Addr → Prop} {nm : Str} {q : PV} : ∀ {fs : List (Str × V)} {ps : List PV}, Reps K H O (fs.map (·.2)) ps → ((fs.map (·.1)).zip ps).lookup nm = some q → ∃ v, fs.lookup nm = some v ∧ Rep K H O v q
  | [], _, _, h => by cases h
  | (g, v) :: fs, _, .cons r rs, h => by
    rw [List.map_cons, List.zip_cons_cons, List.lookup_cons] at h
    rw [List.lookup_cons]
    cases e : nm == g with
    | true => rw [e] at h; cases h; exact ⟨v, rfl, r⟩
    | false => rw [e] at h; exact reps_lookup rs h
theorem lookup_none {nm : Str} : ∀ {fs : List (Str × V)}, nm ∉ fs.map (·.1) → fs.lookup nm = none
  | [], _ => rfl
  | (g, v) :: fs, h => by
    rw [List.map_cons] at h
    rw [List.lookup_cons, beq_eq_false_iff_ne.mpr fun z => h (by rw [z]; exact List.mem_cons_self)]
    exact lookup_none fun z => h (List.mem_cons_of_mem _ z)
def eFld (nm : Str) (fo : Rho → R PV) : Rho → R PV := fun ρ => (fo ρ).bind fun p => match p with
  | .obj _ ns fs => match (ns.zip fs).lookup nm with
    | some q => .ok q
    | none => .stuck
  | _ => .stuck
section
variable {X : Cx} {W : WX} {e o : Expr} {es : List Expr} {pos apos p : Pos} {f fo : Rho → R PV} {fA : Rho → R (List PV)}
theorem e_fld {nm : Str} (hn : nm ∈ (["part", "one", "other", "n"] : List Str)) (he : EJ X W .s e f) (hb : attributeBase e nm X.env (eval e X.env) = eval e X.env := by rfl) : EJ X W .s (.Attribute e nm pos) (eFld nm f) := by
  refine pe_imp (pe_fld he hb) fun σ H Q ⟨H0, O0, ρ, S, G⟩ => ⟨H0, O0, ρ, S, ?_⟩
  revert G
  unfold eFld
  cases f ρ with
  | stuck => exact False.elim
  | exc c => exact id
  | ok q =>
    rw [R.bind_ok]
    cases q with
    | obj C ns fs =>
      dsimp only
      split
      · rename_i z hz
        intro G v H1 s1 r1
        have r1 : Rep X.K H1 (OO O0 σ ρ) v (.obj C ns fs) := r1
        cases r1 with
        | @obj a _ dx gs _ _ h n en c r =>
          subst en
          obtain ⟨u, hu, ru⟩ := reps_lookup r hz
          exact ⟨a, C, dx, gs, u, rfl, h, c.cl, c.na nm hn, hu, G _ _ s1 ru⟩
      · exact False.elim
    | _ => exact False.elim
def tMethSD (C : Addr) (m : Str) (sp : Sp) (E : St → XK) (ta : TE) (t : TA) : TE := fun σ H Q => ta σ H fun x H1 => ∃ a dx fs, x = .ref a ∧ H1 a = some (.ins C dx fs) ∧ fs.lookup m = none ∧ t σ H1 fun vs H2 => sp (x :: vs) H2 Q (E σ)
theorem pe_methSD {m : Str} {C g : Addr} {k : Nat} {fd : FuncData} {ps : List Str} {sp : Sp} {CX : CXT} {E : St → XK} {ta : TE} {t : TA} {pl : Sem Bool} (he : PE X o ta) (c : Cls X.K C) (hm : Meth X.K C m g) (F : FnOk X.prog X.w X.K X.mg X.base CX k g fd ps sp) (hr : Room k X.A) (hb : L2.Binds X.K fd ps []) (hx : ∀ σ, PassesAt CX X σ (E σ)) (ha : PA X (e :: es) t)
    (hst : starEach (e :: es) X.env = (false, eval e X.env) :: starEach es X.env := by rfl) (hpl : (backTo pos (starEach es X.env)).any (·.1) = false := by rfl)
    (ht : eval (.Call (.Attribute o m apos) (e :: es) [] pos) X.env = (do
      let ov ← eval o X.env
      standAt apos.atName
      let (f, first) ← holding [ov] (getMethod ov m pl)
      callWith pos f first (backTo pos (starEach (e :: es) X.env)) (backToKw pos (keywordEach [] X.env))) := by rfl) :
    PE X (.Call (.Attribute o m apos) (e :: es) [] pos) (tMethSD C m sp E ta t) := by
  refine ⟨fun pins s σ H Q I h => ?_⟩
  refine PySem.W.methodCall_KW (pl := pl) (thn (he.run pins s σ H _ I h) fun u s1 ⟨x, H1, I1, rx, a, dx, fs, ex, ea, l, q⟩ => ?_) ht
  subst ex
  obtain rfl : u = Value.ref a := rx
  refine getmeth_ok I1 ea c hm l ?_
  refine PySem.W.callWith_K (first := [.ref a]) (h₀ := X.base) I.ok.mod.kin hm.kp (thn (ha.run pos pins s1 σ H1 _ I1 q) fun us s2 ⟨vs, H2, I2, r, q2⟩ => ⟨I2.kIn, ?_⟩) hst hpl
  exact run_fnSD (us := .ref a :: us) (vs := .ref a :: vs) (dvs := []) F hr hb .nil (hx σ) I2 (.cons rfl r) (by rw [List.append_nil]; exact q2)
theorem pe_methSD0 {m : Str} {C g : Addr} {k : Nat} {fd : FuncData} {ps : List Str} {sp : Sp} {CX : CXT} {E : St → XK} {ta : TE} {pl : Sem Bool} (he : PE X o ta) (c : Cls X.K C) (hm : Meth X.K C m g) (F : FnOk X.prog X.w X.K X.mg X.base CX k g fd ps sp) (hr : Room k X.A) (hb : L2.Binds X.K fd ps []) (hx : ∀ σ, PassesAt CX X σ (E σ))
    (ht : eval (.Call (.Attribute o m apos) [] [] pos) X.env = (do
      let ov ← eval o X.env
      standAt apos.atName
      let (f, first) ← holding [ov] (getMethod ov m pl)
      callWith pos f first (backTo pos (starEach [] X.env)) (backToKw pos (keywordEach [] X.env))) := by rfl) :
    PE X (.Call (.Attribute o m apos) [] [] pos) (tMethSD C m sp E ta tNil) := by
  refine ⟨fun pins s σ H Q I h => ?_⟩
  refine PySem.W.methodCall_KW (pl := pl) (thn (he.run pins s σ H _ I h) fun u s1 ⟨x, H1, I1, rx, a, dx, fs, ex, ea, l, q⟩ => ?_) ht
  subst ex
  obtain rfl : u = Value.ref a := rx
  refine getmeth_ok I1 ea c hm l ?_
  exact PySem.W.callWith_K0 (first := [.ref a]) I1.kIn hm.kp (run_fnSD (us := [.ref a]) (vs := [.ref a]) (dvs := []) F hr hb .nil (hx σ) I1 (.cons rfl .nil) (by rw [List.append_nil]; exact q))
end
/-- a method, by the class -/
def Okm (P : Program) (w : World) (K : PySem.W.Frag) (mg : Str → Option Value) (base : Heap) (m : Str) (Cs : List Addr) (k n : Nat) (nw : Bool) (G : Addr → List PV → R PV) : Prop :=
  ∀ C ∈ Cs, Cls K C ∧ ∃ f fd ps, Meth K C m f ∧ L2.Binds K fd ps [] ∧ FnOk P w K mg base (L2N.CX P w) k f fd ps (spF K mg n nw (G C))
def eMeth (m : Str) (Cs : List Addr) (G : Addr → List PV → R PV) (fo : Rho → R PV) (fA : Rho → R (List PV)) : Rho → R PV := fun ρ => (fo ρ).bind fun p => match p with
  | .obj C ns fs => if C ∈ Cs ∧ m ∉ ns then (fA ρ).bind fun ps => G C (.obj C ns fs :: ps) else .stuck
  | _ => .stuck
section
variable {X : Cx} {W : WX} {e o : Expr} {es : List Expr} {pos apos p : Pos} {f fo : Rho → R PV} {fA : Rho → R (List PV)}
theorem t_meth {m : Str} {Cs : List Addr} {n : Nat} {nw : Bool} {G : Addr → List PV → R PV} {args : List Expr} {ta : TA} (hne : Cs ≠ [])
    (hp : ∀ C ∈ Cs, PE X (.Call (.Attribute o m apos) args [] pos) (tMethSD C m (spF X.K X.mg n nw (G C)) (fun σ cls d H => W cls d σ H) (tE X.K X.mg W .s fo) ta))
    (hta : ∀ σ H Q, tA X.K X.mg W .s fA σ H Q → ta σ H Q) (hal : ∀ ρ ps, fA ρ = .ok ps → ps.length + 1 = n) : EJ X W (mdR nw) (.Call (.Attribute o m apos) args [] pos) (eMeth m Cs G fo fA) := by
  refine ⟨fun pins s σ H Q I h => ?_⟩
  obtain ⟨H0, O0, ρ, S, G0⟩ := h
  suffices q : ∃ C ∈ Cs, tMethSD C m (spF X.K X.mg n nw (G C)) (fun σ cls d H => W cls d σ H) (tE X.K X.mg W .s fo) ta σ H Q by
    obtain ⟨C, hC, q⟩ := q
    exact (hp C hC).run pins s σ H Q I q
  revert G0
  unfold eMeth
  cases hf : fo ρ with
  | stuck => exact False.elim
  | exc c =>
    intro G0
    obtain ⟨C, hC⟩ := List.exists_mem_of_ne_nil _ hne
    exact ⟨C, hC, H0, O0, ρ, S, by rw [hf]; exact G0⟩
  | ok q =>
    rw [R.bind_ok]
    cases q with
    | obj C ns fs =>
      dsimp only
      split
      · rename_i hc
        intro G0
        refine ⟨C, hc.1, H0, O0, ρ, S, ?_⟩
        rw [hf]
        intro v H1 s1 r1
        have r1 : Rep X.K H1 (OO O0 σ ρ) v (.obj C ns fs) := r1
        have r1' := r1
        cases r1' with
        | @obj a _ dx gs _ _ h nn en c r =>
          refine ⟨a, dx, gs, rfl, h, lookup_none (by rw [en]; exact hc.2), hta _ _ _ ⟨H0, O0, ρ, S.step s1, ?_⟩⟩
          revert G0
          cases hA : fA ρ with
          | stuck => exact False.elim
          | exc c => exact fun G0 C H' s' e => G0 C H' (s1.trans s') e
          | ok ps =>
            rw [R.bind_ok]
            intro G0 vs H2 s2 r2
            have rr := reps_of r2
            refine ⟨.obj C ns fs :: ps, OO O0 σ ρ, fun a z => ((S.step s1).step s2).there z, .cons (r1.same s2) rr, by rw [List.length_cons, rr.length, hal ρ ps hA], ?_⟩
            revert G0
            cases G C (.obj C ns fs :: ps) with
            | stuck => exact id
            | exc c => exact fun G C H' s' e => G C H' ((s1.trans s2).trans s') e
            | ok p =>
              intro G v H' s' r'
              refine G v H' ((s1.trans s2).trans s') ?_
              cases nw with
              | false => exact r'
              | true =>
                obtain ⟨a, vs', ps', q1, q2, q3, q4, q5⟩ := r'
                exact ⟨a, vs', ps', q1, q2, (s1.trans s2).free q3, q4, q5⟩
      · exact False.elim
    | _ => exact False.elim
theorem e_meth {m : Str} {Cs : List Addr} {k n j : Nat} {nw : Bool} {G : Addr → List PV → R PV} {pl : Sem Bool} (h : Okm X.prog X.w X.K X.mg X.base m Cs j (n + 1) nw G) (hr : Room k X.A) (hjk : j ≤ k) (tk : L2N.Takes X W) (hne : Cs ≠ []) (ho : EJ X W .s o fo) (ha : AJ X W .s (e :: es) fA) (hal : ALen fA n)
    (hst : starEach (e :: es) X.env = (false, eval e X.env) :: starEach es X.env := by rfl) (hpl : (backTo pos (starEach es X.env)).any (·.1) = false := by rfl)
    (ht : eval (.Call (.Attribute o m apos) (e :: es) [] pos) X.env = (do
      let ov ← eval o X.env
      standAt apos.atName
      let (f, first) ← holding [ov] (getMethod ov m pl)
      callWith pos f first (backTo pos (starEach (e :: es) X.env)) (backToKw pos (keywordEach [] X.env))) := by rfl) : EJ X W (mdR nw) (.Call (.Attribute o m apos) (e :: es) [] pos) (eMeth m Cs G fo fA) :=
  t_meth hne (fun C hC => by
    obtain ⟨c, f, fd, ps, hm, hb, F⟩ := h C hC
    exact pe_methSD ho c hm F (hr.mono hjk) hb (fun σ => L2N.passAt tk σ) ha hst hpl ht) (fun _ _ _ h => h) (fun ρ ps h => by rw [hal.ok ρ ps h])
theorem e_meth0 {m : Str} {Cs : List Addr} {k j : Nat} {nw : Bool} {G : Addr → List PV → R PV} {pl : Sem Bool} (h : Okm X.prog X.w X.K X.mg X.base m Cs j 1 nw G) (hr : Room k X.A) (hjk : j ≤ k) (tk : L2N.Takes X W) (hne : Cs ≠ []) (ho : EJ X W .s o fo)
    (ht : eval (.Call (.Attribute o m apos) [] [] pos) X.env = (do
      let ov ← eval o X.env
      standAt apos.atName
      let (f, first) ← holding [ov] (getMethod ov m pl)
      callWith pos f first (backTo pos (starEach [] X.env)) (backToKw pos (keywordEach [] X.env))) := by rfl) : EJ X W (mdR nw) (.Call (.Attribute o m apos) [] [] pos) (eMeth m Cs G fo aNil) :=
  t_meth hne (fun C hC => by
    obtain ⟨c, f, fd, ps, hm, hb, F⟩ := h C hC
    exact pe_methSD0 ho c hm F (hr.mono hjk) hb (fun σ => L2N.passAt tk σ) ht) (fun σ H Q ⟨H0, O0, ρ, S, G⟩ => G [] H (Same.refl H) .nil) (fun ρ ps h => by cases h; rfl)
def spInit (K : PySem.W.Frag) (ns : List Str) : Sp := fun vs H Q _ => ∃ x dx C ws, vs = .ref x :: ws ∧ ws.length = ns.length ∧ H x = some (.ins C dx []) ∧ ObjC K C ∧ Q .non (upd H x (.ins C dx (ns.zip ws)))
structure MkE (P : Program) (w : World) (K : PySem.W.Frag) (mg : Str → Option Value) (base : Heap) (x : Str) (C : Addr) (ns : List Str) (k : Nat) : Prop where
  ex : ∃ f fd ps, Mk K C f ∧ L2.Binds K fd ps [] ∧ FnOk P w K mg base (L2N.CX P w) k f fd ps (spInit K ns)
  g : mg x = some (.ref C)
  c : ObjC K C
def eMk (C : Addr) (ns : List Str) (fA : Rho → R (List PV)) : Rho → R PV := fun ρ => (fA ρ).bind fun ps => if ps.length = ns.length then .ok (.obj C ns ps) else .stuck
theorem zipN_fst : ∀ {ns : List Str} {vs : List V}, vs.length = ns.length → (ns.zip vs).map (·.1) = ns ∧ (ns.zip vs).map (·.2) = vs
  | [], [], _ => ⟨rfl, rfl⟩
  | n :: ns, v :: vs, h => by
    have := zipN_fst (ns := ns) (vs := vs) (by simpa using h)
    rw [List.zip_cons_cons, List.map_cons, List.map_cons, this.1, this.2]
    exact ⟨rfl, rfl⟩
theorem e_mk {x : Str} {C : Addr} {ns : List Str} {k j : Nat} (h : MkE X.prog X.w X.K X.mg X.base x C ns j) (hr : Room k X.A) (hjk : j + 1 ≤ k) (hg : Gl X x) (ha : AJ X W .s (e :: es) fA) (hdb : (x == ("__debug__" : Str)) = false := by decide)
    (he : starEach (e :: es) X.env = (false, eval e X.env) :: starEach es X.env := by rfl) (hpl : (backTo pos (starEach es X.env)).any (·.1) = false := by rfl) : EJ X W .s (.Call (.Name x p) (e :: es) [] pos) (eMk C ns fA) := by
  obtain ⟨⟨f, fd, ps, M, b, F⟩, g, c⟩ := h
  refine pe_imp (pe_make (ds := []) (dvs := []) M F (hr.mono hjk) hg g b .nil passLN ha hdb he hpl) fun σ H Q ⟨H0, O0, ρ, S, G⟩ => ⟨H0, O0, ρ, S, ?_⟩
  revert G
  unfold eMk
  cases fA ρ with
  | stuck => exact False.elim
  | exc c => exact id
  | ok qs =>
    rw [R.bind_ok]
    split
    · rename_i hl
      intro G vs H1 s1 r1 y dy ny ndy ne
      have rr := reps_of r1
      have lv : vs.length = ns.length := by rw [rr.length]; exact hl
      refine ⟨y, dy, C, vs, by rw [List.append_nil], lv, upd_same, c, rfl, ?_⟩
      rw [upd_upd]
      have sm : Same H1 (upd (upd H1 dy (.own y)) y (.ins C dy (ns.zip vs))) := fun b o z => by
        rw [upd_ne (ne_of_none z ny), upd_ne (ne_of_none z ndy)]; exact z
      refine G _ _ (s1.trans sm) ?_
      show Rep X.K _ (OO O0 σ ρ) (.ref y) (.obj C ns qs)
      exact .obj upd_same (fun z => (S.step s1).there z ny) (zipN_fst lv).1 c (by rw [(zipN_fst lv).2]; exact rr.same sm)
    · exact False.elim
def GlT (K : PySem.W.Frag) (mg : Str → Option Value) (x : Str) (ns : List Int) : Prop := ∃ a, mg x = some (.ref a) ∧ KT K a (ns.map V.int)
theorem e_glT {x : Str} {ns : List Int} (h : GlT X.K X.mg x ns) (hg : Gl X x) (hd : (x == ("__debug__" : Str)) = false := by decide) : EJ X W .s (.Name x pos) (eC (.tup (ns.map PV.int))) := by
  obtain ⟨a, h1, h2⟩ := h
  refine pe_imp (pe_glob (v := .ref a) hg h1 rfl hd) fun σ H Q ⟨H0, O0, ρ, S, G⟩ => ?_
  exact G _ H (Same.refl H) (.tup (.inr h2) (Reps.ofInts ns))
end
def addrOf (mg : Str → Option Value) (x : Str) : Addr := match mg x with
  | some (.ref a) => a
  | _ => 0
theorem addrOf_eq {mg : Str → Option Value} {x : Str} {C : Addr} (h : mg x = some (.ref C)) : addrOf mg x = C := by unfold addrOf; rw [h]
structure ClsE (K : PySem.W.Frag) (mg : Str → Option Value) (x : Str) : Prop where
  g : mg x = some (.ref (addrOf mg x))
  c : ObjC K (addrOf mg x)
/-- a method m of the class x -/
def MethE (K : PySem.W.Frag) (mg : Str → Option Value) (x m qual : Str) (st : Stmt) (ps : List Str) : Prop := ∃ f fd, Meth K (addrOf mg x) m f ∧ Fun K m qual st f fd ∧ L2.Binds K fd ps []
def MakeE (K : PySem.W.Frag) (mg : Str → Option Value) (x qual : Str) (st : Stmt) (ps : List Str) : Prop := ∃ f fd, Mk K (addrOf mg x) f ∧ Fun K "__init__" qual st f fd ∧ L2.Binds K fd ps []
section
variable {h : Heap} {K : PySem.W.Frag} {mg : Str → Option Value}
theorem clsE_mk (X : K.In h) (G : h.Ns mainGlobals mg) {x : Str} {C : Addr} (a : PySem.W.nsIn K mainGlobals x = some (some (.ref C))) (c : ObjC K C) : ClsE K mg x := by
  have e := addrOf_eq (PySem.W.mg_of X G a)
  exact ⟨by rw [e]; exact PySem.W.mg_of X G a, by rw [e]; exact c⟩
theorem methE_mk (X : K.In h) (G : h.Ns mainGlobals mg) {x m qual : Str} {st : Stmt} {ps : List Str} {C f : Addr} {od an : Option Addr} {sl : Array (Option Value)} {oc kV dc pm cd ct : Value}
    (a : PySem.W.nsIn K mainGlobals x = some (some (.ref C))) (b : PySem.W.findIn K (.ref C) m = some (some (.ref f))) (i : PySem.W.isFn K (.ref f) = true)
    (l : K.lookup f = some ⟨oc, od, .func (PySem.W.fnOf m qual (defArgs st) (defBody st) (defScope st) .none kV dc pm an cd ct), sl⟩) (c : PySem.W.codeIn K cd qual = true) (k : PySem.W.keepIn K (.ref f) = true)
    (hb : ∀ (kV doc pm : Value) (an : Option Addr) (cdv ct : Value) (us : List Value), us.length = ps.length → bindArgs (PySem.W.fnOf m qual (defArgs st) (defBody st) (defScope st) .none kV doc pm an cdv ct) ⟨us, []⟩ = pure (ps.zip us)) : MethE K mg x m qual st ps := by
  have e := addrOf_eq (PySem.W.mg_of X G a)
  refine ⟨f, _, ?_, fun_mk l c k, (fun_mk l c k).binds hb⟩
  rw [e]; exact ⟨b, i, k⟩
theorem makeE_mk (X : K.In h) (G : h.Ns mainGlobals mg) {x qual : Str} {st : Stmt} {ps : List Str} {C f : Addr} {od an : Option Addr} {sl : Array (Option Value)} {oc kV dc pm cd ct : Value}
    (a : PySem.W.nsIn K mainGlobals x = some (some (.ref C))) (mk : PySem.W.makesIn K C = true) (kc : PySem.W.keepIn K (.ref C) = true) (b : PySem.W.findIn K (.ref C) "__init__" = some (some (.ref f))) (i : PySem.W.isFn K (.ref f) = true)
    (l : K.lookup f = some ⟨oc, od, .func (PySem.W.fnOf "__init__" qual (defArgs st) (defBody st) (defScope st) .none kV dc pm an cd ct), sl⟩) (c : PySem.W.codeIn K cd qual = true) (k : PySem.W.keepIn K (.ref f) = true)
    (hb : ∀ (kV doc pm : Value) (an : Option Addr) (cdv ct : Value) (us : List Value), us.length = ps.length → bindArgs (PySem.W.fnOf "__init__" qual (defArgs st) (defBody st) (defScope st) .none kV doc pm an cdv ct) ⟨us, []⟩ = pure (ps.zip us)) : MakeE K mg x qual st ps := by
  have e := addrOf_eq (PySem.W.mg_of X G a)
  refine ⟨f, _, ?_, fun_mk l c k, (fun_mk l c k).binds hb⟩
  rw [e]; exact ⟨mk, b, i, kc⟩
variable {P : Program} {w : World} {base : Heap}
theorem meth_fn {x m qual : Str} {st : Stmt} {N ps : List Str} {k n : Nat} {nw : Bool} {g : Rho → Out} (T : MethE K mg x m qual st ps) (S : FnScope N ps (defScope st)) (hn : n = ps.length) (hnw : nw = true → ∀ l, ∀ ρ, g l ≠ .next ρ)
    (hbody : ∀ (f : Addr) (cdv : Value) (A : Around) (outer : List PySem.Env) (s : Shared) (H : Hp) (E : XK), Room k (A.deeper (envOfC qual (defScope st) s.heap.objs.size f cdv)) →
      BJ (cxOf (L2N.CX P w) P w K mg base N qual (defScope st) f cdv A outer s H E) (fun cls d _ H => E cls d H) nw (defBody st) g) :
    ∃ f fd ps, Meth K (addrOf mg x) m f ∧ L2.Binds K fd ps [] ∧ FnOk P w K mg base (L2N.CX P w) (k + 1) f fd ps (spF K mg n nw (runF N.length g)) := by
  obtain ⟨f, fd, M, F, b⟩ := T
  exact ⟨f, fd, ps, M, b, fn_mk F S hn hnw (hbody f)⟩
theorem meth_stuck {x m qual : Str} {st : Stmt} {ps : List Str} {k n : Nat} {nw : Bool} (T : MethE K mg x m qual st ps) (hn : n = ps.length) :
    ∃ f fd ps, Meth K (addrOf mg x) m f ∧ L2.Binds K fd ps [] ∧ FnOk P w K mg base (L2N.CX P w) k f fd ps (spF K mg n nw fun _ => .stuck) := by
  obtain ⟨f, fd, M, F, b⟩ := T
  refine ⟨f, fd, ps, M, b, ⟨fun vs H Q E h => ?_, fun A outer s H args us vs Q E _ _ _ _ h => ?_⟩⟩
  · obtain ⟨_, _, _, _, e, _⟩ := h
    exact e.trans hn
  · obtain ⟨_, _, _, _, _, z⟩ := h
    exact z.elim
/-- a table by classes -/
def pick (L : List (Addr × (List PV → R PV))) (C : Addr) : List PV → R PV := match L.lookup C with
  | some F => F
  | none => fun _ => .stuck
theorem lookup_nodup {α : Type} : ∀ {L : List (Addr × α)}, (L.map (·.1)).Nodup → ∀ t ∈ L, L.lookup t.1 = some t.2
  | [], _, t, h => nomatch h
  | (D, c) :: L, hn, t, h => by
    rw [List.map_cons, List.nodup_cons] at hn
    rw [List.lookup_cons]
    rcases List.mem_cons.mp h with e | h
    · subst e; simp
    · have : (t.1 == D) = false := beq_eq_false_iff_ne.mpr fun z => hn.1 (by rw [← z]; exact List.mem_map.mpr ⟨t, h, rfl⟩)
      rw [this]
      exact lookup_nodup hn.2 t h
theorem okm_pick {m : Str} {L : List (Addr × (List PV → R PV))} {k n : Nat} {nw : Bool} (hn : (L.map (·.1)).Nodup)
    (h : ∀ t ∈ L, Cls K t.1 ∧ ∃ f fd ps, Meth K t.1 m f ∧ L2.Binds K fd ps [] ∧ FnOk P w K mg base (L2N.CX P w) k f fd ps (spF K mg n nw t.2)) : Okm P w K mg base m (L.map (·.1)) k n nw (pick L) := fun C hC => by
  obtain ⟨t, ht, rfl⟩ := List.mem_map.mp hC
  have e : pick L t.1 = t.2 := by unfold pick; rw [lookup_nodup hn t ht]
  rw [e]
  exact h t ht
end
def cs6 (M : Str → Addr) : List Addr := [M "Part", M "Sum", M "Difference", M "Product", M "Quotient", M "Power"]
def cs4 (M : Str → Addr) : List Addr := [M "Sum", M "Difference", M "Product", M "Quotient"]
def tab6 (M : Str → Addr) (a b c d e f : List PV → R PV) : List (Addr × (List PV → R PV)) := [(M "Part", a), (M "Sum", b), (M "Difference", c), (M "Product", d), (M "Quotient", e), (M "Power", f)]
def tab4 (M : Str → Addr) (b c d e : List PV → R PV) : List (Addr × (List PV → R PV)) := [(M "Sum", b), (M "Difference", c), (M "Product", d), (M "Quotient", e)]
theorem cs4_nodup {M : Str → Addr} (h : (cs6 M).Nodup) : (cs4 M).Nodup := by
  unfold cs6 at h
  unfold cs4
  simp only [List.nodup_cons, List.mem_cons, List.not_mem_nil, or_false, not_or] at h ⊢
  exact ⟨h.2.1.imp_right (fun z => ⟨z.1, z.2.1⟩), h.2.2.1.imp_right (fun z => z.1), h.2.2.2.1.1, id, List.nodup_nil⟩
def sTryOE (x : Str) (body su els : Rho → Out) : Rho → Out := fun ρ => match body ρ with
  | .next ρ' => els ρ'
  | .exc c ρ' => if c = x then (match su ρ' with
    | .exc _ _ => .stuck
    | o => o) else .stuck
  | o => o
section
variable {X : Cx} {W : WX} {nw : Bool} {x : Str} {cv : Value} {body suite orelse : List Stmt} {b₀ : Stmt} {np pos pos' : Pos} {g su h : Rho → Out}
theorem s_tryOE (hs : X.stack = X.env :: X.outer) (hf : X.env.frame = some X.env.locals) (hc : Names X x cv) (hex : ∀ C, X.mg x = some (.ref C) → PySem.W.exmOne X.K (.ref C) cv = some true)
    (hb : ∀ (W' : WX) (pn : List (Addr × Obj)) (xe : Value → Shared → Prop), L2N.Takes (X.tr pn xe) W' → PassesOwn (model X.prog X.w) X.A X.env xe → BJ (X.tr pn xe) W' nw body g)
    (hsu : ∀ (a : Addr) (pn : List (Addr × Obj)), BJ (suiteC X a pn) (fun _ _ _ _ => False) nw (b₀ :: suite) su) (ho : BJ X W nw orelse h) :
    SJ X W nw (.Try body [.ExceptHandler (some (.Name x np)) none (b₀ :: suite) pos'] orelse [] pos) (sTryOE x g su h) := by
  refine ps_imp (ps_try_onlyE (tb := fun W' => tS X.K X.mg W' nw g) (ts := fun a cls d => tS X.K X.mg (fun _ _ _ _ => False) nw su) (Wout := fun _ _ _ _ => False) ho hs hf hc (fun _ _ y => by
    obtain ⟨_, _, _, _, _, _, _, _, _, _, _, _, _, _, _, _, z⟩ := y
    exact z.elim) (fun W' pn xe tk hp => hb W' pn xe (takes_N tk) hp) (fun a oe cls d pn hz hv => hsu a _)) fun D σ H ⟨H0, O0, ρ, S, G⟩ => ⟨H0, O0, ρ, S, ?_⟩
  unfold sTryOE at G
  revert G
  cases g ρ with
  | next ρ' => exact fun G σ' H' S' k' => ⟨H0, O0, ρ', S', GotS.later k' G⟩
  | brk ρ' => exact fun G => G
  | cont ρ' => exact fun G => G
  | ret p => exact fun G => G
  | stuck => exact fun G => G
  | exc c ρ' =>
    dsimp only
    split
    · rename_i hcs
      subst hcs
      intro G C σ' H' hm S' k'
      refine ⟨true, hex C hm, fun _ a na => ⟨H0, O0, ρ', S', ?_⟩, fun z => nomatch z⟩
      revert G
      cases su ρ' with
      | next ρ2 => exact fun G σ2 H2 S3 k3 => G _ _ S3 (k'.trans k3)
      | brk ρ2 => exact fun G σ2 H2 S3 k3 => G _ _ S3 (k'.trans k3)
      | cont ρ2 => exact fun G σ2 H2 S3 k3 => G _ _ S3 (k'.trans k3)
      | ret p => exact fun G => G
      | exc c ρ2 => exact fun G => G.elim
      | stuck => exact fun G => G.elim
    · exact fun G => G.elim
end
section
/-- a test that reads an own list as a told one -/
def tLend (i : Nat) (t : Rho → R Bool) : Rho → R Bool := fun ρ => match ρ[i]? with
  | some (.own ps) => t (ρ.set i (.val (.lst ps)))
  | _ => t ρ
variable {X : Cx} {W : WX} {e : Expr} {t : Rho → R Bool}
theorem t_lend {i : Nat} (h : TJ X W e t) : TJ X W e (tLend i t) := by
  refine pt_imp h fun σ H Q ⟨H0, O0, ρ, S, G⟩ => ?_
  unfold tLend at G
  split at G
  · rename_i ps hp
    exact ⟨H0, O0, _, S.freeze hp, G⟩
  · exact ⟨H0, O0, ρ, S, G⟩
end
end PL
set_option Elab.async false
set_option linter.all false
set_option maxRecDepth 100000
set_option autoImplicit false
namespace PM
open PySem PySem.Spec L2 PL
open PyProof.Rows hiding St
noncomputable def D_Sum_of_fractions (M : Str → Addr) : Rho → Out := (bSeq (sRet (eD F_plus_fraction (aCons (eV 1) (aCons (eV 2) aNil)))) bNil)
noncomputable def D_Difference_of_fractions (M : Str → Addr) : Rho → Out := (bSeq (sRet (eD F_minus_fraction (aCons (eV 1) (aCons (eV 2) aNil)))) bNil)
noncomputable def D_Product_of_fractions (M : Str → Addr) : Rho → Out := (bSeq (sRet (eD F_times_fraction (aCons (eV 1) (aCons (eV 2) aNil)))) bNil)
noncomputable def D_Quotient_of_fractions (M : Str → Addr) : Rho → Out := (bSeq (sIf (tB1 (e2 eqP (e2 ixP (eVo 2) (eC (.int 0))) (eC (.int 0)))) (bSeq (sRaise "NoQuotient") bNil) bNil) (bSeq (sRet (eD F_over_fraction (aCons (eV 1) (aCons (eV 2) aNil)))) bNil))
noncomputable def G_of_fractions (M : Str → Addr) : Addr → List PV → R PV := pick (tab4 M (runF 3 (D_Sum_of_fractions M)) (runF 3 (D_Difference_of_fractions M)) (runF 3 (D_Product_of_fractions M)) (runF 3 (D_Quotient_of_fractions M)))
noncomputable def D_Sum_of_lefts (M : Str → Addr) : Rho → Out := (bSeq (sRet (eD F_plus (aCons (eV 1) (aCons (eV 2) aNil)))) bNil)
noncomputable def D_Difference_of_lefts (M : Str → Addr) : Rho → Out := (bSeq (sRet (eD F_minus (aCons (eV 1) (aCons (eV 2) aNil)))) bNil)
noncomputable def D_Product_of_lefts (M : Str → Addr) : Rho → Out := (bSeq (sRet (eD F_multiplied (aCons (eV 1) (aCons (eV 2) aNil)))) bNil)
noncomputable def D_Quotient_of_lefts (M : Str → Addr) : Rho → Out := (bSeq (sRet (eD F_divided (aCons (eV 1) (aCons (eV 2) aNil)))) bNil)
noncomputable def G_of_lefts (M : Str → Addr) : Addr → List PV → R PV := pick (tab4 M (runF 3 (D_Sum_of_lefts M)) (runF 3 (D_Difference_of_lefts M)) (runF 3 (D_Product_of_lefts M)) (runF 3 (D_Quotient_of_lefts M)))
noncomputable def D_Part_value (M : Str → Addr) : Rho → Out := (bSeq (sRet (eFld "part" (eV 0))) bNil)
noncomputable def D_Pair_value (M : Str → Addr) (V : Addr → List PV → R PV) : Rho → Out := (bSeq (sRet (eMeth "of_fractions" (cs4 M) (G_of_fractions M) (eV 0) (aCons (eMeth "value" (cs6 M) V (eFld "one" (eV 0)) aNil) (aCons (eMeth "value" (cs6 M) V (eFld "other" (eV 0)) aNil) aNil)))) bNil)
noncomputable def D_Power_value (M : Str → Addr) (V : Addr → List PV → R PV) : Rho → Out := (bSeq (sSet 1 (eMeth "value" (cs6 M) V (eFld "one" (eV 0)) aNil)) (bSeq (sSet 2 (eV 1)) (bSeq (sFor (iR rng2 (aCons (eC (.int 1)) (aCons (eFld "n" (eV 0)) aNil))) (gN 3) (bSeq (sSet 2 (eD F_times_fraction (aCons (eV 2) (aCons (eV 1) aNil)))) bNil)) (bSeq (sRet (eV 2)) bNil))))
noncomputable def G_value (M : Str → Addr) : Nat → Addr → List PV → R PV
  | 0 => pick (tab6 M (fun _ => .stuck) (fun _ => .stuck) (fun _ => .stuck) (fun _ => .stuck) (fun _ => .stuck) (fun _ => .stuck))
  | n + 1 => pick (tab6 M (runF 1 (D_Part_value M)) (runF 1 (D_Pair_value M (G_value M n))) (runF 1 (D_Pair_value M (G_value M n))) (runF 1 (D_Pair_value M (G_value M n))) (runF 1 (D_Pair_value M (G_value M n))) (runF 4 (D_Power_value M (G_value M n))))
noncomputable def D_Part_seen_by (M : Str → Addr) : Rho → Out := (bSeq (sRet (eD F_seen_left (aCons (eV 1) (aCons (eFld "part" (eV 0)) (aCons (eV 2) aNil))))) bNil)
noncomputable def D_Pair_seen_by (M : Str → Addr) (V : Addr → List PV → R PV) : Rho → Out := (bSeq (sRet (eMeth "of_lefts" (cs4 M) (G_of_lefts M) (eV 0) (aCons (eMeth "seen_by" (cs6 M) V (eFld "one" (eV 0)) (aCons (eV 1) (aCons (eV 2) aNil))) (aCons (eMeth "seen_by" (cs6 M) V (eFld "other" (eV 0)) (aCons (eV 1) (aCons (eV 2) aNil))) aNil)))) bNil)
noncomputable def D_Power_seen_by (M : Str → Addr) (V : Addr → List PV → R PV) : Rho → Out := (bSeq (sRet (eD F_raised (aCons (eMeth "seen_by" (cs6 M) V (eFld "one" (eV 0)) (aCons (eV 1) (aCons (eV 2) aNil))) (aCons (eFld "n" (eV 0)) aNil)))) bNil)
noncomputable def G_seen_by (M : Str → Addr) : Nat → Addr → List PV → R PV
  | 0 => pick (tab6 M (fun _ => .stuck) (fun _ => .stuck) (fun _ => .stuck) (fun _ => .stuck) (fun _ => .stuck) (fun _ => .stuck))
  | n + 1 => pick (tab6 M (runF 3 (D_Part_seen_by M)) (runF 3 (D_Pair_seen_by M (G_seen_by M n))) (runF 3 (D_Pair_seen_by M (G_seen_by M n))) (runF 3 (D_Pair_seen_by M (G_seen_by M n))) (runF 3 (D_Pair_seen_by M (G_seen_by M n))) (runF 3 (D_Power_seen_by M (G_seen_by M n))))
noncomputable def D_tried (M : Str → Addr) : Rho → Out := (bSeq (sTryOE "NoQuotient" (bSeq (sSet 3 (eMeth "seen_by" (cs6 M) (G_seen_by M 14) (eV 0) (aCons (eV 1) (aCons (eV 2) aNil)))) bNil) (bSeq (sRet (eC .non)) bNil) (bSeq (sRet (eV 3)) bNil)) bNil)
noncomputable def F_tried (M : Str → Addr) : List PV → R PV := runF 4 (D_tried M)
noncomputable def D_worked_out (M : Str → Addr) : Rho → Out := (bSeq (sFor (iS (eC (.tup (([0, 1, 2, 4, 8, 16, 32, 64, 128, 256] : List Int).map PV.int)))) (gN 3) (bSeq (sSet 4 (eD (F_tried M) (aCons (eV 0) (aCons (eV 1) (aCons (e2 addP (eVo 2) (eVo 3)) aNil))))) (bSeq (sIf (tAn (tB1 (e2 notNP (eVo 4) (eC .non))) (tB1 (e2 geP (eD F_end_of (aCons (eV 4) aNil)) (eVo 2)))) (bSeq (sRet (eD F_cut_at (aCons (eV 4) (aCons (eV 2) aNil)))) bNil) bNil) bNil))) (bSeq (sRaise "NoQuotient") bNil))
noncomputable def F_worked_out (M : Str → Addr) : List PV → R PV := runF 5 (D_worked_out M)
end PM
set_option Elab.async false
set_option linter.all false
set_option maxRecDepth 100000
set_option autoImplicit false
set_option exponentiation.threshold 20000
namespace PM
open PySem PySem.Spec L2 PL
open PyProof.Rows hiding St
/-- a / b = (x / y) p ^ e, y without p -/
def Fm (p a b e x y : Int) : Prop := y % p ≠ 0 ∧ a * plB p e y = plT p e x * b
theorem pw0 {p : Int} (hp : 2 ≤ p) (k : Nat) : p ^ k ≠ 0 := Int.pow_ne_zero (by omega)
theorem y0 {p y : Int} (h : y % p ≠ 0) : y ≠ 0 := fun z => h (by rw [z]; exact Int.zero_emod p)
theorem plB0 {p e y : Int} (hp : 2 ≤ p) (h : y ≠ 0) : plB p e y ≠ 0 := Int.mul_ne_zero h (pw0 hp _)
theorem shift_cross (p x y e m : Int) (h : m ≤ e) : plT p m (x * p ^ (e - m).toNat) * plB p e y = plT p e x * plB p m y := by
  unfold plT plB
  have k : p ^ (e - m).toNat * p ^ m.toNat * p ^ (-e).toNat = p ^ e.toNat * p ^ (-m).toNat := by
    rw [← Int.pow_add, ← Int.pow_add, ← Int.pow_add]; congr 1; omega
  grind
theorem Fm.low {p a b e x y m : Int} (hp : 2 ≤ p) (h : Fm p a b e x y) (hm : m ≤ e) : Fm p a b m (x * p ^ (e - m).toNat) y := by
  refine ⟨h.1, ?_⟩
  have c := shift_cross p x y e m hm
  have e1 := h.2
  have n : plB p e y ≠ 0 := plB0 hp (y0 h.1)
  apply Int.eq_of_mul_eq_mul_right n
  grind
theorem Fm.up {p a b e x y m : Int} (hp : 2 ≤ p) (hm : m ≤ e) (h : Fm p a b m (x * p ^ (e - m).toNat) y) : Fm p a b e x y := by
  refine ⟨h.1, ?_⟩
  have c := shift_cross p x y e m hm
  have e1 := h.2
  have n : plB p m y ≠ 0 := plB0 hp (y0 h.1)
  apply Int.eq_of_mul_eq_mul_right n
  grind
theorem Fm.cross {p a b c d e x y : Int} (hb : b ≠ 0) (h : Fm p a b e x y) (k : a * d = c * b) : Fm p c d e x y := by
  refine ⟨h.1, ?_⟩
  have e1 := h.2
  apply Int.eq_of_mul_eq_mul_right hb
  grind
theorem Fm.add {p a b c d m x1 y1 x2 y2 : Int} (hp : p ∈ primesL) (h1 : Fm p a b m x1 y1) (h2 : Fm p c d m x2 y2) : Fm p (a * d + c * b) (b * d) m (x1 * y2 + x2 * y1) (y1 * y2) := by
  refine ⟨prime_mulI hp h1.1 h2.1, ?_⟩
  have e1 := h1.2
  have e2 := h2.2
  unfold plT plB at *
  grind
theorem Fm.sub {p a b c d m x1 y1 x2 y2 : Int} (hp : p ∈ primesL) (h1 : Fm p a b m x1 y1) (h2 : Fm p c d m x2 y2) : Fm p (a * d - c * b) (b * d) m (x1 * y2 - x2 * y1) (y1 * y2) := by
  refine ⟨prime_mulI hp h1.1 h2.1, ?_⟩
  have e1 := h1.2
  have e2 := h2.2
  unfold plT plB at *
  grind
theorem Fm.mul {p a b c d e f x1 y1 x2 y2 : Int} (hp : p ∈ primesL) (h1 : Fm p a b e x1 y1) (h2 : Fm p c d f x2 y2) : Fm p (a * c) (b * d) (e + f) (x1 * x2) (y1 * y2) := by
  have hp2 := (primesL_le p hp).1
  refine ⟨prime_mulI hp h1.1 h2.1, ?_⟩
  have e1 := h1.2
  have e2 := h2.2
  have n : plB p e y1 * plB p f y2 ≠ 0 := Int.mul_ne_zero (plB0 hp2 (y0 h1.1)) (plB0 hp2 (y0 h2.1))
  apply Int.eq_of_mul_eq_mul_right n
  have k : p ^ (-(e + f)).toNat * (p ^ e.toNat * p ^ f.toNat) = p ^ (e + f).toNat * (p ^ (-e).toNat * p ^ (-f).toNat) := by
    rw [← Int.pow_add, ← Int.pow_add, ← Int.pow_add, ← Int.pow_add]; congr 1; omega
  have c1 : a * c * plB p (e + f) (y1 * y2) * (plB p e y1 * plB p f y2) = (a * plB p e y1) * (c * plB p f y2) * plB p (e + f) (y1 * y2) := by grind
  rw [c1, e1, e2]
  unfold plT plB
  generalize p ^ (-(e + f)).toNat = A at *
  generalize p ^ (e + f).toNat = B at *
  generalize p ^ e.toNat = C at *
  generalize p ^ f.toNat = D at *
  generalize p ^ (-e).toNat = E at *
  generalize p ^ (-f).toNat = F at *
  have : x1 * C * b * (x2 * D * d) * (y1 * y2 * A) = x1 * x2 * b * d * y1 * y2 * (A * (C * D)) := by grind
  rw [this, k]
  grind
theorem Fm.div {p a b c d e f x1 y1 x2 y2 : Int} (hp : p ∈ primesL) (hx : x2 % p ≠ 0) (h1 : Fm p a b e x1 y1) (h2 : Fm p c d f x2 y2) : Fm p (a * d) (b * c) (e - f) (x1 * y2) (y1 * x2) := by
  have hp2 := (primesL_le p hp).1
  refine ⟨prime_mulI hp h1.1 hx, ?_⟩
  have e1 := h1.2
  have e2 := h2.2
  unfold plT plB at *
  have k1 : ∃ k : Nat, p ^ ((-e).toNat) * p ^ f.toNat = p ^ (-(e - f)).toNat * p ^ k ∧ p ^ e.toNat * p ^ (-f).toNat = p ^ (e - f).toNat * p ^ k := by
    refine ⟨(-e).toNat + f.toNat - (-(e - f)).toNat, ?_, ?_⟩
    · rw [← Int.pow_add, ← Int.pow_add]; congr 1; omega
    · rw [← Int.pow_add, ← Int.pow_add]; congr 1; omega
  obtain ⟨k, k1, k2⟩ := k1
  apply Int.eq_of_mul_eq_mul_right (pw0 hp2 k)
  generalize p ^ (-(e - f)).toNat = A at *
  generalize p ^ (e - f).toNat = B at *
  generalize p ^ e.toNat = C at *
  generalize p ^ f.toNat = D at *
  generalize p ^ (-e).toNat = E at *
  generalize p ^ (-f).toNat = F at *
  generalize p ^ k = G at *
  have l : a * d * (y1 * x2 * A) * G = (a * (y1 * E)) * (x2 * D * d) := by
    have : a * d * (y1 * x2 * A) * G = a * d * y1 * x2 * (A * G) := by grind
    rw [this, ← k1]; grind
  have r : x1 * y2 * B * (b * c) * G = (x1 * C * b) * (c * (y2 * F)) := by
    have : x1 * y2 * B * (b * c) * G = x1 * y2 * b * c * (B * G) := by grind
    rw [this, ← k2]; grind
  rw [l, r, e1, e2]
theorem Fm.neg {p a b e x y : Int} (h : Fm p a b e x y) : Fm p (-a) b e (-x) y := by
  refine ⟨h.1, ?_⟩
  have e1 := h.2
  unfold plT plB at *
  grind
theorem Fm.pow {p a b e x y : Int} (hp : p ∈ primesL) (h : Fm p a b e x y) (N : Nat) : Fm p (a ^ N) (b ^ N) (N * e) (x ^ N) (y ^ N) := by
  refine ⟨pow_ne hp h.1 N, ?_⟩
  have e1 := congrArg (fun z => z ^ N) h.2
  unfold plT plB at *
  simp only [Int.mul_pow, ← Int.pow_mul] at e1
  have t : ∀ z : Int, ((N : Int) * z).toNat = z.toNat * N := fun z => by
    by_cases hz : 0 ≤ z
    · have : (N : Int) * z = ((z.toNat * N : Nat) : Int) := by rw [Int.natCast_mul, Int.toNat_of_nonneg hz, Int.mul_comm]
      rw [this, Int.toNat_natCast]
    · have : (N : Int) * z ≤ 0 := Int.mul_nonpos_of_nonneg_of_nonpos (by omega) (by omega)
      rw [Int.toNat_of_nonpos this, Int.toNat_of_nonpos (by omega), Nat.zero_mul]
  rw [t, show -((N : Int) * e) = N * (-e) by grind, t]
  grind
/-- the fraction a / b begins with the left number (e, ds) -/
def Bg (p a b e : Int) (ds : List Int) : Prop := ∃ x y, Fm p a b e x y ∧ Mo (p ^ ds.length) x (U p ds * y)
theorem mo_cancel {p y : Int} (hp : p ∈ primesL) (hy : y % p ≠ 0) : ∀ (k : Nat) {a b : Int}, Mo (p ^ k) (a * y) (b * y) → Mo (p ^ k) a b
  | 0, a, b, _ => ⟨a - b, by rw [Int.pow_zero]; omega⟩
  | k + 1, a, b, h => by
    have hp2 := (primesL_le p hp).1
    have h0 : Mo (p ^ 1) (a * y) (b * y) := h.low (by omega)
    rw [Int.pow_one] at h0
    -- p divides a - b
    have d : (a - b) % p = 0 := by
      refine Classical.byContradiction fun z => ?_
      have q := prime_mulI hp z hy
      obtain ⟨w, hw⟩ := h0
      apply q
      have : (a - b) * y = p * w := by grind
      rw [this]; exact Int.mul_emod_right _ _
    obtain ⟨c, hc⟩ := Int.dvd_of_emod_eq_zero d
    obtain ⟨w, hw⟩ := h
    have h2 : Mo (p ^ k) (c * y) (0 * y) := by
      refine ⟨w, ?_⟩
      rw [Int.pow_succ] at hw
      have : (c * y - p ^ k * w) * p = 0 := by grind
      rcases Int.mul_eq_zero.mp this with q | q
      · omega
      · omega
    obtain ⟨v, hv⟩ := mo_cancel hp hy k h2
    exact ⟨v, by rw [Int.pow_succ]; grind⟩
end PM
set_option Elab.async false
set_option linter.all false
set_option maxRecDepth 100000
set_option autoImplicit false
set_option exponentiation.threshold 20000
namespace PM
open PySem PySem.Spec L2 PL
open PyProof.Rows hiding St
theorem Bg.low {p a b e m : Int} {ds : List Int} (hp : 2 ≤ p) (h : Bg p a b e ds) (hm : m ≤ e) : ∃ x y, Fm p a b m x y ∧ Mo (p ^ (e + ds.length - m).toNat) x (V p m e ds * y) := by
  obtain ⟨x, y, f, mo⟩ := h
  refine ⟨_, y, f.low hp hm, ?_⟩
  have s := mo.scale (p ^ (e - m).toNat)
  rw [← Int.pow_add] at s
  unfold V
  rw [show (e + (ds.length : Int) - m).toNat = ds.length + (e - m).toNat by omega]
  exact s.trans (Mo.of_eq (by grind))
theorem Bg.up {p a b g m x y : Int} {D : List Int} (hp : 2 ≤ p) (hm : m ≤ g) (f : Fm p a b m x y) (mo : Mo (p ^ (g + D.length - m).toNat) x (V p m g D * y)) : Bg p a b g D := by
  rw [show (g + (D.length : Int) - m).toNat = D.length + (g - m).toNat by omega, Int.pow_add] at mo
  obtain ⟨z, hz⟩ := mo
  unfold V at hz
  have e : x = (U p D * y + p ^ D.length * z) * p ^ (g - m).toNat := by rw [hz]; grind
  rw [e] at f
  exact ⟨_, y, f.up hp hm, ⟨z, rfl⟩⟩
theorem Fm.same {p a b m x1 y1 x2 y2 : Int} (hp : 2 ≤ p) (hb : b ≠ 0) (f1 : Fm p a b m x1 y1) (f2 : Fm p a b m x2 y2) : x1 * y2 = x2 * y1 := by
  have e1 := f1.2
  have e2 := f2.2
  unfold plT plB at *
  have n : p ^ m.toNat * b * p ^ (-m).toNat ≠ 0 := Int.mul_ne_zero (Int.mul_ne_zero (pw0 hp _) hb) (pw0 hp _)
  apply Int.eq_of_mul_eq_mul_right n
  generalize p ^ m.toNat = A at *
  generalize p ^ (-m).toNat = B at *
  have l : x1 * y2 * (A * b * B) = (x1 * A * b) * (y2 * B) := by grind
  have r : x2 * y1 * (A * b * B) = (x2 * A * b) * (y1 * B) := by grind
  rw [l, r, ← e1, ← e2]
  grind
/-- of two left numbers with which it begins the longer one goes on where the other ends -/
theorem bg_ext {p a b e e' : Int} {ds ds' : List Int} {n n' : Nat} (hb : b ≠ 0) (h1 : Lf p ds n) (h2 : Lf p ds' n') (g1 : Bg p a b e ds) (g2 : Bg p a b e' ds') (he : e + ds.length ≤ e' + ds'.length) : Ext p e' ds' e ds := by
  have hp := h1.b.1
  obtain ⟨m, hm⟩ : ∃ m, m = min e e' := ⟨_, rfl⟩
  obtain ⟨x1, y1, f1, m1⟩ := g1.low hp (show m ≤ e by omega)
  obtain ⟨x2, y2, f2, m2⟩ := g2.low hp (show m ≤ e' by omega)
  have s := f1.same hp hb f2
  refine ext_of (b := m) h1 h2 (by omega) (by omega) he ?_
  have m2 := m2.low (show (e + (ds.length : Int) - m).toNat ≤ (e' + (ds'.length : Int) - m).toNat by omega)
  refine mo_cancel h1.pr (prime_mulI h1.pr f1.1 f2.1) _ ?_
  have k2 := m2.symm.mul (Mo.refl _ y1)
  have k1 := m1.mul (Mo.refl _ y2)
  refine (Mo.of_eq ?_).trans (k2.trans ((Mo.of_eq s.symm).trans (k1.trans (Mo.of_eq ?_))))
  · grind
  · grind
theorem bg_of_ext {p a b e e' : Int} {ds ds' : List Int} (hp : 2 ≤ p) (g : Bg p a b e ds) (x : Ext p e ds e' ds') : Bg p a b e' ds' := by
  obtain ⟨x1, y1, f1, m1⟩ := g.low hp x.le
  refine ⟨x1, y1, f1, ?_⟩
  exact (m1.low (by have := x.en; omega)).trans (x.mo.mul (Mo.refl _ _))
/-- the one left number with a told end with which it begins -/
theorem bg_uniq {p a b e e' : Int} {ds ds' : List Int} {n n' : Nat} (hb : b ≠ 0) (h1 : Lf p ds n) (h2 : Lf p ds' n') (g1 : Bg p a b e ds) (g2 : Bg p a b e' ds') (he : e + ds.length = e' + ds'.length) : e = e' ∧ ds = ds' := by
  have x1 := bg_ext hb h1 h2 g1 g2 (by omega)
  have x2 := bg_ext hb h2 h1 g2 g1 (by omega)
  have l1 := x1.le
  have l2 := x2.le
  by_cases h : ds = []
  · subst h
    have : ds' = [] := by
      cases ds' with
      | nil => rfl
      | cons d r => simp at he; omega
    exact ⟨by omega, this.symm⟩
  · obtain ⟨q1, q2⟩ := x1.form h1 h2 h
    subst q1
    have hl : ds'.length = ds.length := by omega
    rw [← hl, List.take_length] at q2
    exact ⟨rfl, q2.symm⟩
theorem Bg.cross {p a b c d e : Int} {ds : List Int} (hb : b ≠ 0) (h : Bg p a b e ds) (k : a * d = c * b) : Bg p c d e ds := by
  obtain ⟨x, y, f, m⟩ := h
  exact ⟨x, y, f.cross hb k, m⟩
theorem Bg.red {p a b e : Int} {ds : List Int} (hb : b ≠ 0) (h : Bg p a b e ds) : Bg p (ftop a b) (fbot a b) e ds := h.cross hb (fcross a b).symm
theorem bg_bare {p a b e x y : Int} (h : Fm p a b e x y) : Bg p a b e [] := ⟨x, y, h, ⟨x - U p [] * y, by rw [List.length_nil, Int.pow_zero]; omega⟩⟩
theorem bg_mul {p a b c d e f : Int} {ds es D : List Int} (hp : p ∈ primesL) (g1 : Bg p a b e ds) (g2 : Bg p c d f es) (l : D.length = min ds.length es.length) (m : Mo (p ^ D.length) (U p D) (U p ds * U p es)) : Bg p (a * c) (b * d) (e + f) D := by
  obtain ⟨x1, y1, f1, m1⟩ := g1
  obtain ⟨x2, y2, f2, m2⟩ := g2
  refine ⟨_, _, f1.mul hp f2, ?_⟩
  have k := (m1.low (show D.length ≤ ds.length by omega)).mul (m2.low (show D.length ≤ es.length by omega))
  refine k.trans (Mo.symm ((m.mul (Mo.refl _ (y1 * y2))).trans (Mo.of_eq ?_)))
  grind
theorem bg_neg {p a b e : Int} {ds : List Int} {n : Nat} (h : Lf p ds n) (g : Bg p a b e ds) : Bg p (-a) b e (opp p ds) := by
  obtain ⟨x, y, f, m⟩ := g
  refine ⟨_, _, f.neg, ?_⟩
  rw [opp_len, U_opp h.b.1]
  have k := (Mo.emod (p ^ ds.length) (-U p ds)).mul (Mo.refl _ y)
  refine Mo.trans ?_ k.symm
  obtain ⟨z, hz⟩ := m
  exact ⟨-z, by rw [hz]; grind⟩
theorem bg_add {p a b c d e f g : Int} {ds es D : List Int} (hp : p ∈ primesL) (g1 : Bg p a b e ds) (g2 : Bg p c d f es) (hg : min e f ≤ g) (en : g + D.length = min (e + ds.length) (f + es.length))
    (m : Mo (p ^ (g + D.length - min e f).toNat) (V p (min e f) g D) (V p (min e f) e ds + V p (min e f) f es)) : Bg p (a * d + c * b) (b * d) g D := by
  have hp2 := (primesL_le p hp).1
  obtain ⟨k, hk⟩ : ∃ k, k = min e f := ⟨_, rfl⟩
  rw [← hk] at m hg
  obtain ⟨x1, y1, f1, m1⟩ := g1.low hp2 (show k ≤ e by omega)
  obtain ⟨x2, y2, f2, m2⟩ := g2.low hp2 (show k ≤ f by omega)
  refine Bg.up hp2 hg (f1.add hp f2) ?_
  have q1 := (m1.low (show (g + (D.length : Int) - k).toNat ≤ _ by omega)).mul (Mo.refl _ y2)
  have q2 := (m2.low (show (g + (D.length : Int) - k).toNat ≤ _ by omega)).mul (Mo.refl _ y1)
  refine (q1.add q2).trans (Mo.symm ((m.mul (Mo.refl _ (y1 * y2))).trans (Mo.of_eq ?_)))
  grind
theorem bg_div {p a b c d e f : Int} {ds es D : List Int} {n n' : Nat} (L1 : Lf p ds n) (L2 : Lf p es n') (he : es ≠ []) (g1 : Bg p a b e ds) (g2 : Bg p c d f es) (l : D.length = min ds.length es.length) (m : Mo (p ^ D.length) (U p D * U p es) (U p ds)) : Bg p (a * d) (b * c) (e - f) D := by
  have hp := L1.pr
  obtain ⟨x1, y1, f1, m1⟩ := g1
  obtain ⟨x2, y2, f2, m2⟩ := g2
  have uh := prime_mulI hp (U_head L2 he) f2.1
  have x2n : x2 % p ≠ 0 := by
    have q := (m2.low (show 1 ≤ es.length from List.length_pos_iff.mpr he)).eq
    rw [Int.pow_one] at q
    rw [q]; exact uh
  refine ⟨_, _, f1.div hp x2n f2, ?_⟩
  have k1 := (m1.low (show D.length ≤ ds.length by omega)).mul (Mo.refl _ y2)
  have k2 := (Mo.refl (p ^ D.length) (U p D * y1)).mul (m2.low (show D.length ≤ es.length by omega))
  have k3 := m.symm.mul (Mo.refl _ (y1 * y2))
  refine k1.trans ((Mo.of_eq ?_).trans (k3.trans ((Mo.of_eq ?_).trans (k2.symm.trans (Mo.of_eq ?_)))))
  · grind
  · grind
  · grind
theorem bg_div0 {p a b c d f : Int} {es : List Int} {n : Nat} (L2 : Lf p es n) (he : es ≠ []) (g2 : Bg p c d f es) (hd : d ≠ 0) : c ≠ 0 := by
  intro z
  subst z
  have hp := L2.pr
  have hp2 := L2.b.1
  obtain ⟨x2, y2, f2, m2⟩ := g2
  have e := f2.2
  rw [Int.zero_mul] at e
  have x0 : x2 = 0 := by
    rcases Int.mul_eq_zero.mp e.symm with q | q
    · rcases Int.mul_eq_zero.mp q with q | q
      · exact q
      · exact absurd q (pw0 hp2 _)
    · exact absurd q hd
  subst x0
  have q := (m2.low (show 1 ≤ es.length from List.length_pos_iff.mpr he)).eq
  rw [Int.pow_one, Int.zero_emod] at q
  exact prime_mulI hp (U_head L2 he) f2.1 q.symm
theorem bg_pow {p a b e : Int} {ds D : List Int} {n : Nat} (L : Lf p ds n) (hd : ds ≠ []) (g : Bg p a b e ds) (N t m : Nat) (hN : N = p.toNat ^ t * m) (hm : (m : Int) % p ≠ 0) (l : D.length = kn p ds.length t) (u : U p D = U p ds ^ N % p ^ kn p ds.length t) : Bg p (a ^ N) (b ^ N) (N * e) D := by
  have hp := L.pr
  obtain ⟨x, y, f, mo⟩ := g
  refine ⟨_, _, f.pow hp N, ?_⟩
  rw [l, u]
  have d1 : 1 ≤ ds.length := List.length_pos_iff.mpr hd
  have un := prime_mulI hp (U_head L hd) f.1
  obtain ⟨z, hz⟩ := mo
  obtain ⟨y', hy, _⟩ := raise_mo hp un ds.length t m z d1 hm
  rw [← hN] at hy
  have k1 : Mo (p ^ kn p ds.length t) (x ^ N) ((U p ds * y) ^ N) := ⟨y', by rw [hz]; exact hy⟩
  have k2 := (Mo.emod (p ^ kn p ds.length t) (U p ds ^ N)).mul (Mo.refl _ (y ^ N))
  refine k1.trans (Mo.symm (k2.trans (Mo.of_eq ?_)))
  rw [Int.mul_pow]
end PM
set_option Elab.async false
set_option linter.all false
set_option maxRecDepth 100000
set_option autoImplicit false
set_option exponentiation.threshold 20000
namespace PM
open PySem PySem.Spec L2 PL
open PyProof.Rows hiding St
inductive T where
  | part (a b : Int)
  | two (k : Nat) (x y : T)
  | pow (x : T) (n : Nat)
def nmT : Nat → Str
  | 0 => "Sum" | 1 => "Difference" | 2 => "Product" | _ => "Quotient"
def clsT : T → Str
  | .part _ _ => "Part"
  | .two k _ _ => nmT k
  | .pow _ _ => "Power"
def enc (M : Str → Addr) : T → PV
  | .part a b => .obj (M "Part") ["part"] [fracV a b]
  | .two k x y => .obj (M (nmT k)) ["one", "other"] [enc M x, enc M y]
  | .pow x n => .obj (M "Power") ["one", "n"] [enc M x, .int n]
def depT : T → Nat
  | .part _ _ => 0
  | .two _ x y => 1 + max (depT x) (depT y)
  | .pow x _ => 1 + depT x
def bitsT (S : Nat) : T → Nat
  | .part _ _ => S
  | .two _ x y => bitsT S x + bitsT S y + 1
  | .pow x n => n * bitsT S x
def Wf (S : Nat) : T → Prop
  | .part a b => 1 ≤ b ∧ Int.gcd a b = 1 ∧ a.natAbs < 2 ^ S ∧ b.natAbs < 2 ^ S
  | .two _ x y => Wf S x ∧ Wf S y
  | .pow x n => Wf S x ∧ 1 ≤ n ∧ n ≤ 9
def opT : Nat → Int × Int → Int × Int → Option (Int × Int)
  | 0, u, v => some (ftop (u.1 * v.2 + v.1 * u.2) (u.2 * v.2), fbot (u.1 * v.2 + v.1 * u.2) (u.2 * v.2))
  | 1, u, v => some (ftop (u.1 * v.2 - v.1 * u.2) (u.2 * v.2), fbot (u.1 * v.2 - v.1 * u.2) (u.2 * v.2))
  | 2, u, v => some (ftop (u.1 * v.1) (u.2 * v.2), fbot (u.1 * v.1) (u.2 * v.2))
  | _, u, v => if v.1 = 0 then none else some (ftop (u.1 * v.2) (u.2 * v.1), fbot (u.1 * v.2) (u.2 * v.1))
def mulT (u v : Int × Int) : Int × Int := (ftop (u.1 * v.1) (u.2 * v.2), fbot (u.1 * v.1) (u.2 * v.2))
/-- so often as a factor, one more -/
def powT (u : Int × Int) : Nat → Int × Int
  | 0 => u
  | n + 1 => mulT (powT u n) u
def valT : T → Option (Int × Int)
  | .part a b => some (a, b)
  | .two k x y => (valT x).bind fun u => (valT y).bind fun v => opT k u v
  | .pow x n => (valT x).map fun u => powT u (n - 1)
/-- a fraction in lowest terms, of so many bits -/
structure Low (u : Int × Int) (m : Nat) : Prop where
  pos : 1 ≤ u.2
  gcd : Int.gcd u.1 u.2 = 1
  top : u.1.natAbs < 2 ^ m
  bot : u.2.natAbs < 2 ^ m
theorem Low.le {u : Int × Int} {m n : Nat} (h : Low u m) (hm : m ≤ n) : Low u n := ⟨h.pos, h.gcd, sz_le h.top hm, sz_le h.bot hm⟩
theorem low_red {t b : Int} {m : Nat} (hb : b ≠ 0) (ht : t.natAbs < 2 ^ m) (hbz : b.natAbs < 2 ^ m) : Low (ftop t b, fbot t b) m := ⟨fbot_pos hb, flow hb, Nat.lt_of_le_of_lt (ftop_le hb) ht, Nat.lt_of_le_of_lt (fbot_le hb) hbz⟩
theorem low_op {k : Nat} {u v w : Int × Int} {m n : Nat} (h1 : Low u m) (h2 : Low v n) (h : opT k u v = some w) : Low w (m + n + 1) := by
  have p1 := h1.pos
  have p2 := h2.pos
  have nn : u.2 * v.2 ≠ 0 := Int.mul_ne_zero (by omega) (by omega)
  have t1 : (u.1 * v.2).natAbs < 2 ^ (m + n) := mul_lt h1.top h2.bot (by omega)
  have t2 : (v.1 * u.2).natAbs < 2 ^ (m + n) := mul_lt h2.top h1.bot (by omega)
  have t3 : (u.2 * v.2).natAbs < 2 ^ (m + n + 1) := mul_lt h1.bot h2.bot (by omega)
  match k with
  | 0 => cases h; exact low_red nn (add_lt t1 t2 (by omega) (by omega)) t3
  | 1 => cases h; exact low_red nn (sub_lt t1 t2 (by omega) (by omega)) t3
  | 2 => cases h; exact low_red nn (mul_lt h1.top h2.top (by omega)) t3
  | k + 3 =>
    have h : (if v.1 = 0 then none else some (ftop (u.1 * v.2) (u.2 * v.1), fbot (u.1 * v.2) (u.2 * v.1))) = some w := h
    by_cases z : v.1 = 0
    · rw [if_pos z] at h; cases h
    · rw [if_neg z] at h
      cases h
      exact low_red (Int.mul_ne_zero (by omega) z) (mul_lt h1.top h2.bot (by omega)) (mul_lt h1.bot h2.top (by omega))
theorem low_pow {u : Int × Int} {m : Nat} (h : Low u m) : ∀ n : Nat, Low (powT u n) ((n + 1) * m)
  | 0 => by rw [Nat.zero_add, Nat.one_mul]; exact h
  | n + 1 => by
    have ih := low_pow h n
    have p1 := ih.pos
    have p2 := h.pos
    have e : (n + 1) * m + m = (n + 1 + 1) * m := by rw [Nat.succ_mul (n + 1)]
    exact low_red (Int.mul_ne_zero (by omega) (by omega)) (mul_lt ih.top h.top (by omega)) (mul_lt ih.bot h.bot (by omega))
theorem low_val {S : Nat} : ∀ {t : T} {u : Int × Int}, Wf S t → valT t = some u → Low u (bitsT S t)
  | .part a b, _, h, e => by cases e; exact ⟨h.1, h.2.1, h.2.2.1, h.2.2.2⟩
  | .two k x y, w, h, e => by
    unfold valT at e
    cases hx : valT x with
    | none => rw [hx] at e; cases e
    | some u =>
      cases hy : valT y with
      | none => rw [hx, hy] at e; cases e
      | some v => rw [hx, hy] at e; exact low_op (low_val h.1 hx) (low_val h.2 hy) e
  | .pow x n, w, h, e => by
    unfold valT at e
    cases hx : valT x with
    | none => rw [hx] at e; cases e
    | some u =>
      rw [hx] at e
      cases e
      have := low_pow (low_val h.1 hx) (n - 1)
      rw [show n - 1 + 1 = n by have := h.2.1; omega] at this
      exact this
theorem pick_at {L : List (Addr × (List PV → R PV))} {t : Addr × (List PV → R PV)} (hn : (L.map (·.1)).Nodup) (ht : t ∈ L) : pick L t.1 = t.2 := by
  unfold pick; rw [lookup_nodup hn t ht]
section
variable {M : Str → Addr} {a b c d e f : List PV → R PV}
theorem pick6 (h : (cs6 M).Nodup) : pick (tab6 M a b c d e f) (M "Part") = a ∧ pick (tab6 M a b c d e f) (M "Sum") = b ∧ pick (tab6 M a b c d e f) (M "Difference") = c ∧ pick (tab6 M a b c d e f) (M "Product") = d ∧ pick (tab6 M a b c d e f) (M "Quotient") = e ∧ pick (tab6 M a b c d e f) (M "Power") = f := by
  have h' : ((tab6 M a b c d e f).map (·.1)).Nodup := h
  exact ⟨pick_at (t := (M "Part", a)) h' (by simp [tab6]), pick_at (t := (M "Sum", b)) h' (by simp [tab6]), pick_at (t := (M "Difference", c)) h' (by simp [tab6]), pick_at (t := (M "Product", d)) h' (by simp [tab6]), pick_at (t := (M "Quotient", e)) h' (by simp [tab6]), pick_at (t := (M "Power", f)) h' (by simp [tab6])⟩
theorem pick4 (h : (cs6 M).Nodup) : pick (tab4 M b c d e) (M "Sum") = b ∧ pick (tab4 M b c d e) (M "Difference") = c ∧ pick (tab4 M b c d e) (M "Product") = d ∧ pick (tab4 M b c d e) (M "Quotient") = e := by
  have h' : ((tab4 M b c d e).map (·.1)).Nodup := cs4_nodup h
  exact ⟨pick_at (t := (M "Sum", b)) h' (by simp [tab4]), pick_at (t := (M "Difference", c)) h' (by simp [tab4]), pick_at (t := (M "Product", d)) h' (by simp [tab4]), pick_at (t := (M "Quotient", e)) h' (by simp [tab4])⟩
end
theorem pick_two {M : Str → Addr} (h : (cs6 M).Nodup) (a b f : List PV → R PV) (k : Nat) : pick (tab6 M a b b b b f) (M (nmT k)) = b := by
  obtain ⟨_, q1, q2, q3, q4, _⟩ := pick6 (M := M) (a := a) (b := b) (c := b) (d := b) (e := b) (f := f) h
  match k with
  | 0 => exact q1
  | 1 => exact q2
  | 2 => exact q3
  | k + 3 => exact q4
def pk4 (b c d e : List PV → R PV) : Nat → List PV → R PV
  | 0 => b | 1 => c | 2 => d | _ => e
theorem pick_four {M : Str → Addr} (h : (cs6 M).Nodup) (b c d e : List PV → R PV) (k : Nat) : pick (tab4 M b c d e) (M (nmT k)) = pk4 b c d e k := by
  obtain ⟨q1, q2, q3, q4⟩ := pick4 (M := M) (b := b) (c := c) (d := d) (e := e) h
  match k with
  | 0 => exact q1
  | 1 => exact q2
  | 2 => exact q3
  | k + 3 => exact q4
theorem nm4 (M : Str → Addr) (k : Nat) : M (nmT k) ∈ cs4 M := by
  match k with
  | 0 => simp [cs4, nmT]
  | 1 => simp [cs4, nmT]
  | 2 => simp [cs4, nmT]
  | k + 3 => simp [cs4, nmT]
theorem cls6 (M : Str → Addr) (t : T) : M (clsT t) ∈ cs6 M := by
  cases t with
  | part a b => simp [cs6, clsT]
  | pow x n => simp [cs6, clsT]
  | two k x y =>
    show M (nmT k) ∈ cs6 M
    match k with
    | 0 => simp [cs6, nmT]
    | 1 => simp [cs6, nmT]
    | 2 => simp [cs6, nmT]
    | k + 3 => simp [cs6, nmT]
/-- the names of a term's attributes, and their values -/
def fldN : T → List Str
  | .part _ _ => ["part"]
  | .two _ _ _ => ["one", "other"]
  | .pow _ _ => ["one", "n"]
def fldV (M : Str → Addr) : T → List PV
  | .part a b => [fracV a b]
  | .two _ x y => [enc M x, enc M y]
  | .pow x n => [enc M x, .int n]
theorem enc_eq (M : Str → Addr) (t : T) : enc M t = .obj (M (clsT t)) (fldN t) (fldV M t) := by cases t <;> rfl
theorem eMeth_ok {m : Str} {Cs : List Addr} {G : Addr → List PV → R PV} {fo : Rho → R PV} {fA : Rho → R (List PV)} {ρ : Rho} {C : Addr} {ns : List Str} {fs ps : List PV} (h1 : fo ρ = .ok (.obj C ns fs)) (h2 : C ∈ Cs) (h3 : m ∉ ns) (h4 : fA ρ = .ok ps) : eMeth m Cs G fo fA ρ = G C (.obj C ns fs :: ps) := by
  unfold eMeth
  rw [h1, R.bind_ok]
  dsimp only
  rw [if_pos ⟨h2, h3⟩, h4, R.bind_ok]
theorem eMeth_exc {m : Str} {Cs : List Addr} {G : Addr → List PV → R PV} {fo : Rho → R PV} {fA : Rho → R (List PV)} {ρ : Rho} {C : Addr} {ns : List Str} {fs : List PV} {c : Str} (h1 : fo ρ = .ok (.obj C ns fs)) (h2 : C ∈ Cs) (h3 : m ∉ ns) (h4 : fA ρ = .exc c) : eMeth m Cs G fo fA ρ = .exc c := by
  unfold eMeth
  rw [h1, R.bind_ok]
  dsimp only
  rw [if_pos ⟨h2, h3⟩, h4, R.bind_exc]
theorem eFld_ok {nm : Str} {fo : Rho → R PV} {ρ : Rho} {C : Addr} {ns : List Str} {fs : List PV} {q : PV} (h1 : fo ρ = .ok (.obj C ns fs)) (h2 : (ns.zip fs).lookup nm = some q) : eFld nm fo ρ = .ok q := by
  unfold eFld
  rw [h1, R.bind_ok]
  dsimp only
  rw [h2]
theorem no_meth {m : Str} (hm : m = "value" ∨ m = "seen_by" ∨ m = "shown" ∨ m = "weight" ∨ m = "sign" ∨ m = "of_fractions" ∨ m = "of_lefts") (t : T) : m ∉ fldN t := by
  cases t with
  | part a b =>
    show m ∉ (["part"] : List Str)
    rcases hm with h | h | h | h | h | h | h <;> subst h <;> decide +kernel
  | two k x y =>
    show m ∉ (["one", "other"] : List Str)
    rcases hm with h | h | h | h | h | h | h <;> subst h <;> decide +kernel
  | pow x n =>
    show m ∉ (["one", "n"] : List Str)
    rcases hm with h | h | h | h | h | h | h <;> subst h <;> decide +kernel
end PM
set_option Elab.async false
set_option linter.all false
set_option maxRecDepth 100000
set_option autoImplicit false
set_option exponentiation.threshold 20000
namespace PM
open PySem PySem.Spec L2 PL
open PyProof.Rows hiding St
def worth : Option (Int × Int) → R PV
  | some u => .ok (fracV u.1 u.2)
  | none => .exc "NoQuotient"
theorem f_opF {M : Str → Addr} (h : (cs6 M).Nodup) (k : Nat) (q : PV) {u v : Int × Int} {m : Nat} (h1 : Low u m) (h2 : Low v m) (hm : m ≤ 3900) : G_of_fractions M (M (nmT k)) [q, fracV u.1 u.2, fracV v.1 v.2] = worth (opT k u v) := by
  have p1 := h1.pos
  have p2 := h2.pos
  have a1 := sz_le h1.top hm
  have a2 := sz_le h1.bot hm
  have a3 := sz_le h2.top hm
  have a4 := sz_le h2.bot hm
  unfold G_of_fractions
  rw [pick_four h]
  match k with
  | 0 =>
    show runF 3 (D_Sum_of_fractions M) [q, fracV u.1 u.2, fracV v.1 v.2] = _
    have f := f_plus (a := u.1) (b := u.2) (c := v.1) (d := v.2) a1 a2 a3 a4 (by omega) (by omega)
    refine (runF_eq (n := 3) (u := D_Sum_of_fractions M)).trans ?_
    show (D_Sum_of_fractions M [.val q, .val (fracV u.1 u.2), .val (fracV v.1 v.2)]).res = _
    simp [D_Sum_of_fractions, f, worth, opT]
  | 1 =>
    show runF 3 (D_Difference_of_fractions M) [q, fracV u.1 u.2, fracV v.1 v.2] = _
    have f := f_minus (a := u.1) (b := u.2) (c := v.1) (d := v.2) a1 a2 a3 a4 (by omega) (by omega)
    refine (runF_eq (n := 3) (u := D_Difference_of_fractions M)).trans ?_
    show (D_Difference_of_fractions M [.val q, .val (fracV u.1 u.2), .val (fracV v.1 v.2)]).res = _
    simp [D_Difference_of_fractions, f, worth, opT]
  | 2 =>
    show runF 3 (D_Product_of_fractions M) [q, fracV u.1 u.2, fracV v.1 v.2] = _
    have f := f_times (a := u.1) (b := u.2) (c := v.1) (d := v.2) a1 a2 a3 a4 (by omega) (by omega)
    refine (runF_eq (n := 3) (u := D_Product_of_fractions M)).trans ?_
    show (D_Product_of_fractions M [.val q, .val (fracV u.1 u.2), .val (fracV v.1 v.2)]).res = _
    simp [D_Product_of_fractions, f, worth, opT]
  | k + 3 =>
    show runF 3 (D_Quotient_of_fractions M) [q, fracV u.1 u.2, fracV v.1 v.2] = _
    refine (runF_eq (n := 3) (u := D_Quotient_of_fractions M)).trans ?_
    show (D_Quotient_of_fractions M [.val q, .val (fracV u.1 u.2), .val (fracV v.1 v.2)]).res = worth (if v.1 = 0 then none else some (ftop (u.1 * v.2) (u.2 * v.1), fbot (u.1 * v.2) (u.2 * v.1)))
    have x0 : ixP (fracV v.1 v.2) (.int 0) = .ok (.int v.1) := by simp [fracV]
    by_cases z : v.1 = 0
    · rw [if_pos z]
      have z' : (v.1 == 0) = true := by simpa using z
      simp [D_Quotient_of_fractions, x0, z', worth]
    · rw [if_neg z]
      have z' : (v.1 == 0) = false := by simpa using z
      have f := f_over (a := u.1) (b := u.2) (c := v.1) (d := v.2) a1 a2 a3 a4 (by omega) z
      simp [D_Quotient_of_fractions, x0, z', f, worth]
theorem pow_loop {u : Int × Int} {m : Nat} (h : Low u m) (s0 : Slot) : ∀ (j i : Nat) (s3 : Slot), (i + j + 1) * m ≤ 3900 → ∃ s3', forL (gN 3) (bSeq (sSet 2 (eD F_times_fraction (aCons (eV 2) (aCons (eV 1) aNil)))) bNil) (rngL (1 + (i : Int)) j) [s0, .val (fracV u.1 u.2), .val (fracV (powT u i).1 (powT u i).2), s3] = .next [s0, .val (fracV u.1 u.2), .val (fracV (powT u (i + j)).1 (powT u (i + j)).2), s3']
  | 0, i, s3, _ => ⟨s3, by simp [rngL, forL]⟩
  | j + 1, i, s3, hz => by
    have hw := low_pow h i
    have p1 := h.pos
    have p2 := hw.pos
    have le1 : m ≤ 3900 := Nat.le_trans (by rw [Nat.add_mul, Nat.one_mul]; omega) hz
    have le2 : (i + 1) * m ≤ 3900 := Nat.le_trans (Nat.mul_le_mul_right m (by omega)) hz
    have f := f_times (a := (powT u i).1) (b := (powT u i).2) (c := u.1) (d := u.2) (sz_le hw.top le2) (sz_le hw.bot le2) (sz_le h.top le1) (sz_le h.bot le1) (by omega) (by omega)
    obtain ⟨s3', q⟩ := pow_loop h s0 j (i + 1) (.val (.int (1 + (i : Int)))) (by rw [show i + 1 + j + 1 = i + (j + 1) + 1 by omega]; exact hz)
    refine ⟨s3', ?_⟩
    rw [show i + (j + 1) = i + 1 + j by omega]
    have r : rngL (1 + (i : Int)) (j + 1) = .int (1 + (i : Int)) :: rngL (1 + ((i + 1 : Nat) : Int)) j := by
      unfold rngL
      rw [List.range_succ_eq_map, List.map_cons, List.map_map]
      refine congr (congrArg List.cons (by simp)) ?_
      refine List.map_congr_left fun z _ => ?_
      simp only [Function.comp]
      congr 1
      omega
    rw [r, forL_cons]
    refine Eq.trans ?_ q
    have b : bSeq (sSet 2 (eD F_times_fraction (aCons (eV 2) (aCons (eV 1) aNil)))) bNil [s0, .val (fracV u.1 u.2), .val (fracV (powT u i).1 (powT u i).2), .val (.int (1 + (i : Int)))] = .next [s0, .val (fracV u.1 u.2), .val (fracV (powT u (i + 1)).1 (powT u (i + 1)).2), .val (.int (1 + (i : Int)))] := by
      simp [f, powT, mulT]
    show Out.fo (bSeq (sSet 2 (eD F_times_fraction (aCons (eV 2) (aCons (eV 1) aNil)))) bNil [s0, .val (fracV u.1 u.2), .val (fracV (powT u i).1 (powT u i).2), .val (.int (1 + (i : Int)))]) _ = _
    rw [b]
    rfl
theorem g_value {M : Str → Addr} (h : (cs6 M).Nodup) {S : Nat} : ∀ {t : T}, Wf S t → bitsT S t ≤ 3900 → ∀ {n : Nat}, depT t < n → G_value M n (M (clsT t)) [enc M t] = worth (valT t)
  | .part a b, w, hb, 0, hn => by omega
  | .two k x y, w, hb, 0, hn => by omega
  | .pow x N, w, hb, 0, hn => by omega
  | .part a b, w, hb, n + 1, hn => by
    have g : G_value M (n + 1) (M (clsT (.part a b))) = runF 1 (D_Part_value M) := (pick6 h).1
    rw [g]
    refine (runF_eq (n := 1) (u := D_Part_value M)).trans ?_
    show (D_Part_value M [.val (.obj (M "Part") ["part"] [fracV a b])]).res = .ok (fracV a b)
    have e := eFld_ok (nm := "part") (fo := eV 0) (ρ := [.val (.obj (M "Part") ["part"] [fracV a b])]) rfl rfl
    simp [D_Part_value, e]
  | .two k x y, w, hb, n + 1, hn => by
    have hb : bitsT S x + bitsT S y + 1 ≤ 3900 := hb
    have hn : 1 + max (depT x) (depT y) < n + 1 := hn
    have i1 := g_value h (t := x) w.1 (by omega) (n := n) (by omega)
    have i2 := g_value h (t := y) w.2 (by omega) (n := n) (by omega)
    have g : G_value M (n + 1) (M (clsT (.two k x y))) = runF 1 (D_Pair_value M (G_value M n)) := pick_two h _ _ _ k
    rw [g]
    refine (runF_eq (n := 1) (u := D_Pair_value M (G_value M n))).trans ?_
    show (D_Pair_value M (G_value M n) [.val (.obj (M (nmT k)) ["one", "other"] [enc M x, enc M y])]).res = _
    obtain ⟨ρ, hρ⟩ : ∃ ρ : Rho, ρ = [.val (.obj (M (nmT k)) ["one", "other"] [enc M x, enc M y])] := ⟨_, rfl⟩
    rw [← hρ]
    have s0 : eV 0 ρ = .ok (.obj (M (nmT k)) ["one", "other"] [enc M x, enc M y]) := by rw [hρ]; rfl
    have o1 : eFld "one" (eV 0) ρ = .ok (.obj (M (clsT x)) (fldN x) (fldV M x)) := by rw [← enc_eq]; exact eFld_ok s0 rfl
    have o2 : eFld "other" (eV 0) ρ = .ok (.obj (M (clsT y)) (fldN y) (fldV M y)) := by rw [← enc_eq]; exact eFld_ok s0 rfl
    have m1 : eMeth "value" (cs6 M) (G_value M n) (eFld "one" (eV 0)) aNil ρ = worth (valT x) := by
      rw [eMeth_ok o1 (cls6 M x) (no_meth (.inl rfl) x) rfl, ← enc_eq]; exact i1
    have m2 : eMeth "value" (cs6 M) (G_value M n) (eFld "other" (eV 0)) aNil ρ = worth (valT y) := by
      rw [eMeth_ok o2 (cls6 M y) (no_meth (.inl rfl) y) rfl, ← enc_eq]; exact i2
    have nof : ("of_fractions" : Str) ∉ (["one", "other"] : List Str) := by decide +kernel
    unfold D_Pair_value
    show _ = worth ((valT x).bind fun u => (valT y).bind fun v => opT k u v)
    cases hx : valT x with
    | none =>
      rw [hx] at m1
      have e := eMeth_exc (G := G_of_fractions M) (fA := aCons (eMeth "value" (cs6 M) (G_value M n) (eFld "one" (eV 0)) aNil) (aCons (eMeth "value" (cs6 M) (G_value M n) (eFld "other" (eV 0)) aNil) aNil)) s0 (nm4 M k) nof (c := "NoQuotient") (by rw [aCons_eq, m1]; rfl)
      rw [bSeq_eq, sRet_eq, e]; rfl
    | some u =>
      rw [hx] at m1
      have lx := low_val w.1 hx
      cases hy : valT y with
      | none =>
        rw [hy] at m2
        have e := eMeth_exc (G := G_of_fractions M) (fA := aCons (eMeth "value" (cs6 M) (G_value M n) (eFld "one" (eV 0)) aNil) (aCons (eMeth "value" (cs6 M) (G_value M n) (eFld "other" (eV 0)) aNil) aNil)) s0 (nm4 M k) nof (c := "NoQuotient") (by rw [aCons_eq, m1, aCons_eq, m2]; rfl)
        rw [bSeq_eq, sRet_eq, e]; rfl
      | some v =>
        rw [hy] at m2
        have ly := low_val w.2 hy
        have e := eMeth_ok (G := G_of_fractions M) (fA := aCons (eMeth "value" (cs6 M) (G_value M n) (eFld "one" (eV 0)) aNil) (aCons (eMeth "value" (cs6 M) (G_value M n) (eFld "other" (eV 0)) aNil) aNil)) s0 (nm4 M k) nof (ps := [fracV u.1 u.2, fracV v.1 v.2]) (by rw [aCons_eq, m1, aCons_eq, m2, aNil_eq]; rfl)
        rw [f_opF h k _ (lx.le (Nat.le_add_right _ (bitsT S y))) (ly.le (Nat.le_add_left _ (bitsT S x))) (by omega)] at e
        rw [bSeq_eq, sRet_eq, e]
        show _ = worth (opT k u v)
        cases opT k u v with
        | none => rfl
        | some z => rfl
  | .pow x N, w, hb, n + 1, hn => by
    have hb : N * bitsT S x ≤ 3900 := hb
    have hn : 1 + depT x < n + 1 := hn
    obtain ⟨w1, w2, w3⟩ : Wf S x ∧ 1 ≤ N ∧ N ≤ 9 := w
    have hbx : bitsT S x ≤ 3900 := Nat.le_trans (by have := Nat.mul_le_mul_right (bitsT S x) w2; omega) hb
    have i1 := g_value h (t := x) w1 hbx (n := n) (by omega)
    have g : G_value M (n + 1) (M (clsT (.pow x N))) = runF 4 (D_Power_value M (G_value M n)) := (pick6 h).2.2.2.2.2
    rw [g]
    refine (runF_eq (n := 4) (u := D_Power_value M (G_value M n))).trans ?_
    show (D_Power_value M (G_value M n) [.val (.obj (M "Power") ["one", "n"] [enc M x, .int N]), .un, .un, .un]).res = _
    have s0 : ∀ r : Rho, eV 0 (.val (.obj (M "Power") ["one", "n"] [enc M x, .int N]) :: r) = .ok (.obj (M "Power") ["one", "n"] [enc M x, .int N]) := fun r => rfl
    have o1 : eFld "one" (eV 0) [.val (.obj (M "Power") ["one", "n"] [enc M x, .int N]), .un, .un, .un] = .ok (.obj (M (clsT x)) (fldN x) (fldV M x)) := by rw [← enc_eq]; exact eFld_ok (s0 _) rfl
    have m1 : eMeth "value" (cs6 M) (G_value M n) (eFld "one" (eV 0)) aNil [.val (.obj (M "Power") ["one", "n"] [enc M x, .int N]), .un, .un, .un] = worth (valT x) := by
      rw [eMeth_ok o1 (cls6 M x) (no_meth (.inl rfl) x) rfl, ← enc_eq]; exact i1
    unfold D_Power_value
    show _ = worth ((valT x).map fun u => powT u (N - 1))
    cases hx : valT x with
    | none => rw [hx] at m1; rw [bSeq_eq, sSet_eq, m1]; rfl
    | some u =>
      rw [hx] at m1
      have lx := low_val w1 hx
      refine stp (fracV u.1 u.2) m1 ?_
      simp only [List.set_cons_succ, List.set_cons_zero]
      refine stp (fracV u.1 u.2) rfl ?_
      simp only [List.set_cons_succ, List.set_cons_zero]
      have on : eFld "n" (eV 0) [.val (.obj (M "Power") ["one", "n"] [enc M x, .int N]), .val (fracV u.1 u.2), .val (fracV u.1 u.2), .un] = .ok (.int N) := eFld_ok (s0 _) rfl
      obtain ⟨s3, L⟩ := pow_loop lx (.val (.obj (M "Power") ["one", "n"] [enc M x, .int N])) (N - 1) 0 .un (by rw [show 0 + (N - 1) + 1 = N by omega]; exact hb)
      have r2 : rng2 [.int 1, .int N] = .ok (rngL (1 + ((0 : Nat) : Int)) (N - 1)) := by
        rw [rng2_ok (by omega) (by omega) (by omega) (by omega)]
        rw [show ((N : Int) - 1).toNat = N - 1 by omega]
        rfl
      refine stpFor (rngL (1 + ((0 : Nat) : Int)) (N - 1)) _ (by simp only [iR_eq, aCons_eq, aNil_eq, eC_eq, bind1, on, r2]) L ?_
      rw [show 0 + (N - 1) = N - 1 by omega]
      simp [worth]
end PM
set_option Elab.async false
set_option linter.all false
set_option maxRecDepth 100000
set_option autoImplicit false
set_option exponentiation.threshold 20000
namespace PM
open PySem PySem.Spec L2 PL
open PyProof.Rows hiding St
theorem f_raised6 (p e : Int) (ds : List Int) (N t m : Nat) (n : Nat) (h : Lf p ds n) (hn : n ≤ 650) (hd : ds ≠ []) (he : e.natAbs < 2 ^ 200) (hN : 1 ≤ N) (h1000 : N ≤ 1000) (hm : (m : Int) % p ≠ 0) (hNe : (N : Int) = m * p ^ t) (ht : t ≤ 9) :
    ∃ D, F_raised [leftV p e ds, .int N] = .ok (leftV p (N * e) D) ∧ Lf p D (n + 10) ∧ D.length = kn p ds.length t ∧ U p D = U p ds ^ N % p ^ kn p ds.length t := by
  have hpb := h.b
  have hl := h.len
  have d1 : 1 ≤ ds.length := List.length_pos_iff.mpr hd
  obtain ⟨k, hk⟩ : ∃ k, k = kn p ds.length t := ⟨_, rfl⟩
  have k1 : 1 ≤ k ∧ k ≤ n + 10 := by rw [hk]; unfold kn; split <;> omega
  rw [← hk]
  have kp := f_kn p m ds.length t hpb hm
  rw [← hNe, ← hk] at kp
  have un := U_nonneg hpb.1 h.dg
  have u := f_unit p e ds hpb.1 hpb.2 h.dg (by omega)
  have pw := f_power_of p k (by omega) (by omega) (by omega)
  rw [show ((k : Nat) : Int).toNat = k by omega] at pw
  have w1 : 1 < p ^ k := by
    obtain ⟨j, rfl⟩ : ∃ j, k = j + 1 := ⟨k - 1, by omega⟩
    rw [Int.pow_succ]
    have q : 0 < p ^ j := Int.pow_pos (by omega)
    have : 1 * p ≤ p ^ j * p := Int.mul_le_mul_of_nonneg_right (by omega) (by omega)
    omega
  have wz : (p ^ k).natAbs < 2 ^ 4999 := sz_le (pow_sz hpb.1 hpb.2 _) (by omega)
  have uz : (U p ds).natAbs < 2 ^ 5000 := sz_le (lt_sz hpb.1 hpb.2 un.1 un.2) (by omega)
  have of := f_often (U p ds) (p ^ k) N w1 (by omega) uz
  have ow := f_of_whole p (N * e) (U p ds ^ N % p ^ k) k h.pr (by omega)
  have hh : (digs p (U p ds ^ N % p ^ k) k).head? ≠ some 0 := by
    obtain ⟨j, rfl⟩ : ∃ j, k = j + 1 := ⟨k - 1, by omega⟩
    have q := pow_ne h.pr (U_head h hd) N
    have q2 : U p ds ^ N % p ^ (j + 1) % p ≠ 0 := by rw [Int.emod_emod_of_dvd _ ⟨p ^ j, by rw [Int.pow_succ, Int.mul_comm]⟩]; exact q
    simpa [digs] using q2
  rw [(head_lead hh).1, (head_lead hh).2, Int.natCast_zero, Int.add_zero] at ow
  have lD : (digs p (U p ds ^ N % p ^ k) k).length = k := digs_len ..
  refine ⟨_, ?_, ⟨h.pr, digs_Dg hpb.1 _ _, hh, by omega⟩, lD, by rw [U_digs hpb.1, Int.emod_emod]⟩
  refine (runF_eq (n := 4) (u := D_raised)).trans ?_
  show (D_raised [.val (leftV p e ds), .val (.int N), .un, .un]).res = _
  obtain ⟨x0, x1, x2⟩ := ixT p e ds
  have kd := f_known p e ds
  have ne := neTup (ds := ds)
  rw [decide_eq_false hd] at ne
  have c1 : ¬ ((N : Int) < 1) := by omega
  have c2 : ¬ ((1000 : Int) < N) := by omega
  have mm : mulP (.int N) (.int e) = .ok (.int (N * e)) := mulP_ii (okMul_of (m := 20) (n := 200) (by omega) he (by omega) (by omega) (by omega))
  unfold D_raised
  refine skp (by simp only [tOr_eq, tNt_eq, tB1_eq, eD_eq, aCons_eq, aNil_eq, eV0, eVs, eVo0, eVos, bind1, f_is_whole, isW_int, asB_eq, Bool.not_true, if_neg Bool.false_ne_true, e2_eq, eC_eq, ltP_ii, decide_eq_false c1, gtP_ii, decide_eq_false c2]) ?_
  refine skp (by simp [x2, ne]) ?_
  refine stp (.int k) (by simp only [eD_eq, aCons_eq, aNil_eq, e2_eq, eVo0, eVos, eV0, eVs, eC_eq, bind1, x0, kd, kp]) ?_
  simp only [List.set_cons_succ, List.set_cons_zero]
  refine stp (.int (U p ds ^ N % p ^ k)) (by simp only [eD_eq, aCons_eq, aNil_eq, e2_eq, eVo0, eVos, eV0, eVs, eC_eq, bind1, x0, u, pw, of]) ?_
  simp only [List.set_cons_succ, List.set_cons_zero]
  simp only [bSeq_eq, sRet_eq, eD_eq, aCons_eq, aNil_eq, e2_eq, eVo0, eVos, eV0, eVs, eC_eq, bind1, x0, x1, mm, ow, st_ok, then_ret, res_ret]
theorem low_form {p a b : Int} {m : Nat} (hp : p ∈ primesL) (h : Low (a, b) m) (ha : a ≠ 0) : ∃ t s e : Int, t % p ≠ 0 ∧ s % p ≠ 0 ∧ 1 ≤ s ∧ Int.gcd t s = 1 ∧ t.natAbs < 2 ^ m ∧ s.natAbs < 2 ^ m ∧ -(m : Int) ≤ e ∧ e ≤ m ∧ a = plT p e t ∧ b = plB p e s := by
  have hpb := primesL_le p hp
  have b1 : 1 ≤ b := h.pos
  have g1 : Int.gcd a b = 1 := h.gcd
  have top : a.natAbs < 2 ^ m := h.top
  have bot : b.natAbs < 2 ^ m := h.bot
  obtain ⟨t, i, e1, h1, _⟩ := vp_spec (p := p) hpb.1 ha
  obtain ⟨s, j, e2, h2, _⟩ := vp_spec (p := p) hpb.1 (show b ≠ 0 by omega)
  have pp : ∀ k : Nat, 0 < p ^ k := fun k => Int.pow_pos (by omega)
  -- one of both exponents is nought
  have ij : i = 0 ∨ j = 0 := by
    refine Classical.byContradiction fun z => ?_
    have hi : 1 ≤ i := by omega
    have hj : 1 ≤ j := by omega
    have d1 : p ∣ a := by rw [e1, pow_split p hi, Int.pow_one]; exact ⟨t * p ^ (i - 1), by grind⟩
    have d2 : p ∣ b := by rw [e2, pow_split p hj, Int.pow_one]; exact ⟨s * p ^ (j - 1), by grind⟩
    have d3 : p.natAbs ∣ Int.gcd a b := Nat.dvd_gcd (Int.natAbs_dvd_natAbs.mpr d1) (Int.natAbs_dvd_natAbs.mpr d2)
    rw [g1] at d3
    have := Nat.le_of_dvd (by omega) d3
    omega
  have le : ∀ (z : Int) (k : Nat), z ≠ 0 → (z * p ^ k).natAbs < 2 ^ m → z.natAbs < 2 ^ m ∧ k ≤ m := fun z k hz hk => by
    rw [Int.natAbs_mul, Int.natAbs_pow] at hk
    have z1 : 1 ≤ z.natAbs := by omega
    have p2 : 2 ≤ p.natAbs := by omega
    have q1 : 2 ^ k ≤ p.natAbs ^ k := Nat.pow_le_pow_left p2 k
    have q2 : 1 ≤ p.natAbs ^ k := Nat.one_le_pow _ _ (by omega)
    constructor
    · have : z.natAbs * 1 ≤ z.natAbs * p.natAbs ^ k := Nat.mul_le_mul_left _ q2
      omega
    · have : 1 * p.natAbs ^ k ≤ z.natAbs * p.natAbs ^ k := Nat.mul_le_mul_right _ z1
      have l : 2 ^ k < 2 ^ m := by omega
      exact Nat.le_of_lt ((Nat.pow_lt_pow_iff_right (by omega)).mp l)
  have t0 := y0 h1
  have s0 := y0 h2
  obtain ⟨tz, iz⟩ := le t i t0 (by rw [← e1]; exact top)
  obtain ⟨sz, jz⟩ := le s j s0 (by rw [← e2]; exact bot)
  have sp : 1 ≤ s := by
    refine Int.not_lt.mp fun z => ?_
    have : s * p ^ j ≤ 0 := Int.mul_nonpos_of_nonpos_of_nonneg (by omega) (by have := pp j; omega)
    omega
  have gc : Int.gcd t s = 1 := by
    have d : (Int.gcd t s) ∣ Int.gcd a b := by
      refine Nat.dvd_gcd ?_ ?_
      · rw [e1, Int.natAbs_mul]; exact Nat.dvd_trans (Nat.gcd_dvd_left _ _) (Nat.dvd_mul_right _ _)
      · rw [e2, Int.natAbs_mul]; exact Nat.dvd_trans (Nat.gcd_dvd_right _ _) (Nat.dvd_mul_right _ _)
    rw [g1] at d
    exact Nat.dvd_one.mp d
  refine ⟨t, s, (i : Int) - j, h1, h2, sp, gc, tz, sz, by omega, by omega, ?_, ?_⟩
  · unfold plT; rw [e1]; congr 1; congr 1; omega
  · unfold plB; rw [e2]; congr 1; congr 1; omega
theorem f_seen_any {p pl a b : Int} {m : Nat} (hp : p ∈ primesL) (h : Low (a, b) m) (hm : m ≤ 1200) (hpl : -1000 ≤ pl ∧ pl ≤ 1000) :
    ∃ e ds, F_seen_left [.int p, fracV a b, .int pl] = .ok (leftV p e ds) ∧ Lf p ds (pl + m).toNat ∧ e + ds.length = pl ∧ Bg p a b e ds ∧ (ds = [] ∨ -(m : Int) ≤ e) := by
  have hpb := primesL_le p hp
  by_cases ha : a = 0
  · subst ha
    have g1 : Int.gcd 0 b = 1 := h.gcd
    have b1 : 1 ≤ b := h.pos
    have : b = 1 := by rw [Int.gcd_zero_left] at g1; omega
    subst this
    refine ⟨pl, [], f_seen_nought p pl hp, ⟨hp, (fun _ z => nomatch z), by simp, by simp⟩, by simp, bg_bare (x := 0) (y := 1) ⟨?_, ?_⟩, .inl rfl⟩
    · rw [Int.emod_eq_of_lt (by omega) (by omega)]; omega
    · unfold plT; simp
  · obtain ⟨t, s, e, h1, h2, sp, gc, tz, sz, e1, e2, rfl, rfl⟩ := low_form hp h ha
    have F := f_seen p t s e pl hp h1 h2 sp gc (sz_le tz (by omega)) (by have := sz_le sz (show m ≤ 4900 by omega); omega) (by omega) (by omega)
    have base : Fm p (plT p e t) (plB p e s) e t s := ⟨h2, rfl⟩
    by_cases hle : pl ≤ e
    · refine ⟨pl, [], F.1 hle, ⟨hp, (fun _ z => nomatch z), by simp, by simp⟩, by simp, bg_bare (base.low hpb.1 hle), .inl rfl⟩
    · obtain ⟨ov, o1, o2⟩ := F.2 (by omega)
      refine ⟨e, _, o2, ⟨hp, ldig_Dg hpb.1 _ _ _ _, ldig_head hp o1 h1 _, by rw [ldig_len]; omega⟩, by rw [ldig_len]; omega, ⟨t, s, base, ?_⟩, .inr e1⟩
      rw [ldig_len]
      exact (ldig_U hpb.1 o1 _ t).symm
theorem pow_up {m n : Nat} (h : m ≤ n) : 2 ^ m ≤ 2 ^ n := Nat.pow_le_pow_right (by omega) h
theorem f_opL {M : Str → Addr} (h : (cs6 M).Nodup) (k : Nat) (q : PV) {p e f : Int} {ds es : List Int} {n m : Nat} {u v : Int × Int} {m1 m2 : Nat} (L1 : Lf p ds n) (L2 : Lf p es n) (hn : n ≤ 700) (hm : 10 ≤ m) (he : e.natAbs < 2 ^ m) (hf : f.natAbs < 2 ^ m)
    (w1 : Low u m1) (w2 : Low v m2) (g1 : Bg p u.1 u.2 e ds) (g2 : Bg p v.1 v.2 f es) :
    (∃ g D w, G_of_lefts M (M (nmT k)) [q, leftV p e ds, leftV p f es] = .ok (leftV p g D) ∧ Lf p D n ∧ g.natAbs < 2 ^ (m + 4) ∧ opT k u v = some w ∧ Bg p w.1 w.2 g D) ∨ G_of_lefts M (M (nmT k)) [q, leftV p e ds, leftV p f es] = .exc "NoQuotient" := by
  have hp := L1.pr
  have l1 := L1.len
  have l2 := L2.len
  have p1 := w1.pos
  have p2 := w2.pos
  have nn : u.2 * v.2 ≠ 0 := Int.mul_ne_zero (by omega) (by omega)
  have b0 := pow_up hm
  have b1 : 2 ^ (m + 4) = 2 ^ m * 16 := by rw [Nat.pow_add]
  have b2 : 2 ^ 10 = 1024 := rfl
  unfold G_of_lefts
  rw [pick_four h]
  match k with
  | 0 =>
    show (∃ g D w, runF 3 (D_Sum_of_lefts M) [q, leftV p e ds, leftV p f es] = _ ∧ _) ∨ _
    obtain ⟨g, D, q1, q2, q3, q4, q5⟩ := f_plus3 p e f (min e f) ds es n L1 L2 (by omega) (by omega) (by omega)
    refine .inl ⟨g, D, _, ?_, q2, by omega, rfl, (bg_add hp g1 g2 q3 q4 q5).red nn⟩
    refine (runF_eq (n := 3) (u := D_Sum_of_lefts M)).trans ?_
    show (D_Sum_of_lefts M [.val q, .val (leftV p e ds), .val (leftV p f es)]).res = _
    simp [D_Sum_of_lefts, q1]
  | 1 =>
    show (∃ g D w, runF 3 (D_Difference_of_lefts M) [q, leftV p e ds, leftV p f es] = _ ∧ _) ∨ _
    have ol := opp_len p es
    obtain ⟨g, D, q1, q2, q3, q4, q5⟩ := f_plus3 p e f (min e f) ds (opp p es) n L1 (lf_opp L2) (by omega) (by omega) (by omega)
    have mi := f_minus2 p e f ds es n L2 (by omega) q1
    have bg := bg_add hp g1 (bg_neg L2 g2) q3 q4 q5
    rw [show u.1 * v.2 + -v.1 * u.2 = u.1 * v.2 - v.1 * u.2 by grind] at bg
    refine .inl ⟨g, D, _, ?_, q2, by omega, rfl, bg.red nn⟩
    refine (runF_eq (n := 3) (u := D_Difference_of_lefts M)).trans ?_
    show (D_Difference_of_lefts M [.val q, .val (leftV p e ds), .val (leftV p f es)]).res = _
    simp [D_Difference_of_lefts, mi]
  | 2 =>
    show (∃ g D w, runF 3 (D_Product_of_lefts M) [q, leftV p e ds, leftV p f es] = _ ∧ _) ∨ _
    obtain ⟨D, q1, q2, q3, q4⟩ := f_mult3 p e f ds es n L1 L2 (by omega)
    refine .inl ⟨e + f, D, _, ?_, q2, by omega, rfl, (bg_mul hp g1 g2 q3 q4).red nn⟩
    refine (runF_eq (n := 3) (u := D_Product_of_lefts M)).trans ?_
    show (D_Product_of_lefts M [.val q, .val (leftV p e ds), .val (leftV p f es)]).res = _
    simp [D_Product_of_lefts, q1]
  | k + 3 =>
    show (∃ g D w, runF 3 (D_Quotient_of_lefts M) [q, leftV p e ds, leftV p f es] = _ ∧ _ ∧ _ ∧ (if v.1 = 0 then none else some (ftop (u.1 * v.2) (u.2 * v.1), fbot (u.1 * v.2) (u.2 * v.1))) = some w ∧ _) ∨ runF 3 (D_Quotient_of_lefts M) [q, leftV p e ds, leftV p f es] = _
    have go : ∀ {r : R PV}, F_divided [leftV p e ds, leftV p f es] = r → runF 3 (D_Quotient_of_lefts M) [q, leftV p e ds, leftV p f es] = r := fun {r} hr => by
      refine (runF_eq (n := 3) (u := D_Quotient_of_lefts M)).trans ?_
      show (D_Quotient_of_lefts M [.val q, .val (leftV p e ds), .val (leftV p f es)]).res = _
      subst hr
      simp only [D_Quotient_of_lefts, bSeq_eq, sRet_eq, eD_eq, aCons_eq, aNil_eq, eV0, eVs, bind1]
      cases F_divided [leftV p e ds, leftV p f es] <;> rfl
    by_cases z : es = []
    · subst z
      exact .inr (go (f_div_bare p e f ds))
    · obtain ⟨D, q1, q2, q3, q4⟩ := f_div3 p e f ds es n L1 L2 (by omega) z
      have c0 := bg_div0 (a := 0) (b := 0) L2 z g2 (by omega)
      refine .inl ⟨e - f, D, _, go q1, q2, by omega, if_neg c0, (bg_div L1 L2 z g1 g2 q3 q4).red (Int.mul_ne_zero (by omega) c0)⟩
end PM
set_option Elab.async false
set_option linter.all false
set_option maxRecDepth 100000
set_option autoImplicit false
set_option exponentiation.threshold 20000
namespace PM
open PySem PySem.Spec L2 PL
open PyProof.Rows hiding St
theorem pow_cross {u : Int × Int} {m : Nat} (hu : Low u m) : ∀ j : Nat, u.1 ^ (j + 1) * (powT u j).2 = (powT u j).1 * u.2 ^ (j + 1)
  | 0 => by rw [Nat.zero_add, Int.pow_one, Int.pow_one]; rfl
  | j + 1 => by
    have ih := pow_cross hu j
    have c := fcross ((powT u j).1 * u.1) ((powT u j).2 * u.2)
    show u.1 ^ (j + 1 + 1) * fbot ((powT u j).1 * u.1) ((powT u j).2 * u.2) = ftop ((powT u j).1 * u.1) ((powT u j).2 * u.2) * u.2 ^ (j + 1 + 1)
    have z : (powT u j).2 * u.2 ≠ 0 := Int.mul_ne_zero (by have := (low_pow hu j).pos; omega) (by have := hu.pos; omega)
    · apply Int.eq_of_mul_eq_mul_right z
      rw [Int.pow_succ u.1, Int.pow_succ u.2]
      generalize ftop ((powT u j).1 * u.1) ((powT u j).2 * u.2) = A at *
      generalize fbot ((powT u j).1 * u.1) ((powT u j).2 * u.2) = B at *
      generalize (powT u j).1 = C at *
      generalize (powT u j).2 = D at *
      generalize u.1 ^ (j + 1) = E at *
      generalize u.2 ^ (j + 1) = F at *
      grind
/-- what is known of a term with an end: all its worth begins with, or none -/
def SeenT (M : Str → Addr) (n : Nat) (p N : Int) (t : T) : Prop :=
  (∃ e ds u, G_seen_by M n (M (clsT t)) [enc M t, .int p, .int N] = .ok (leftV p e ds) ∧ Lf p ds (480 + 10 * depT t) ∧ e.natAbs < 2 ^ (10 + 4 * depT t) ∧ valT t = some u ∧ Bg p u.1 u.2 e ds) ∨ G_seen_by M n (M (clsT t)) [enc M t, .int p, .int N] = .exc "NoQuotient"
theorem g_seen {M : Str → Addr} (h : (cs6 M).Nodup) {S : Nat} (hS : S ≤ 80) {p N : Int} (hp : p ∈ primesL) (hN : -400 ≤ N ∧ N ≤ 400) : ∀ {t : T}, Wf S t → ∀ {n : Nat}, depT t < n → n ≤ 16 → SeenT M n p N t
  | .part a b, w, 0, hn, _ => by omega
  | .two k x y, w, 0, hn, _ => by omega
  | .pow x N, w, 0, hn, _ => by omega
  | .part a b, w, n + 1, hn, hn2 => by
    left
    have g : G_seen_by M (n + 1) (M (clsT (.part a b))) = runF 3 (D_Part_seen_by M) := (pick6 h).1
    obtain ⟨e, ds, q1, q2, q3, q4, q5⟩ := f_seen_any (pl := N) hp (show Low (a, b) S from ⟨w.1, w.2.1, w.2.2.1, w.2.2.2⟩) (by omega) (by omega)
    refine ⟨e, ds, (a, b), ?_, ⟨q2.pr, q2.dg, q2.hd, ?_⟩, ?_, rfl, q4⟩
    · rw [g]
      refine (runF_eq (n := 3) (u := D_Part_seen_by M)).trans ?_
      show (D_Part_seen_by M [.val (.obj (M "Part") ["part"] [fracV a b]), .val (.int p), .val (.int N)]).res = _
      have e := eFld_ok (nm := "part") (fo := eV 0) (ρ := [.val (.obj (M "Part") ["part"] [fracV a b]), .val (.int p), .val (.int N)]) rfl rfl
      simp [D_Part_seen_by, e, q1]
    · have := q2.len; show _ ≤ 480 + 10 * 0; omega
    · show e.natAbs < 2 ^ (10 + 4 * 0)
      have : (2 : Nat) ^ (10 + 4 * 0) = 1024 := rfl
      rw [this]
      rcases q5 with z | z
      · subst z; simp at q3; omega
      · omega
  | .two k x y, w, n + 1, hn, hn2 => by
    have hn : 1 + max (depT x) (depT y) < n + 1 := hn
    have i1 := g_seen h hS hp hN (t := x) w.1 (n := n) (by omega) (by omega)
    have i2 := g_seen h hS hp hN (t := y) w.2 (n := n) (by omega) (by omega)
    have g : G_seen_by M (n + 1) (M (clsT (.two k x y))) = runF 3 (D_Pair_seen_by M (G_seen_by M n)) := pick_two h _ _ _ k
    unfold SeenT
    rw [g]
    have rw0 : ∀ r, (D_Pair_seen_by M (G_seen_by M n) [.val (enc M (.two k x y)), .val (.int p), .val (.int N)]).res = r → runF 3 (D_Pair_seen_by M (G_seen_by M n)) [enc M (.two k x y), .int p, .int N] = r := fun r hr => (runF_eq (n := 3) (u := D_Pair_seen_by M (G_seen_by M n))).trans hr
    obtain ⟨ρ, hρ⟩ : ∃ ρ : Rho, ρ = [.val (enc M (.two k x y)), .val (.int p), .val (.int N)] := ⟨_, rfl⟩
    rw [← hρ] at rw0
    have s0 : eV 0 ρ = .ok (.obj (M (nmT k)) ["one", "other"] [enc M x, enc M y]) := by rw [hρ]; rfl
    have s1 : eV 1 ρ = .ok (.int p) := by rw [hρ]; rfl
    have s2 : eV 2 ρ = .ok (.int N) := by rw [hρ]; rfl
    have o1 : eFld "one" (eV 0) ρ = .ok (.obj (M (clsT x)) (fldN x) (fldV M x)) := by rw [← enc_eq]; exact eFld_ok s0 rfl
    have o2 : eFld "other" (eV 0) ρ = .ok (.obj (M (clsT y)) (fldN y) (fldV M y)) := by rw [← enc_eq]; exact eFld_ok s0 rfl
    have ar : (aCons (eV 1) (aCons (eV 2) aNil)) ρ = .ok [.int p, .int N] := by rw [aCons_eq, s1, aCons_eq, s2, aNil_eq]; rfl
    have m1 : eMeth "seen_by" (cs6 M) (G_seen_by M n) (eFld "one" (eV 0)) (aCons (eV 1) (aCons (eV 2) aNil)) ρ = G_seen_by M n (M (clsT x)) [enc M x, .int p, .int N] := by
      rw [eMeth_ok o1 (cls6 M x) (no_meth (.inr (.inl rfl)) x) ar, ← enc_eq]
    have m2 : eMeth "seen_by" (cs6 M) (G_seen_by M n) (eFld "other" (eV 0)) (aCons (eV 1) (aCons (eV 2) aNil)) ρ = G_seen_by M n (M (clsT y)) [enc M y, .int p, .int N] := by
      rw [eMeth_ok o2 (cls6 M y) (no_meth (.inr (.inl rfl)) y) ar, ← enc_eq]
    have nof : ("of_lefts" : Str) ∉ (["one", "other"] : List Str) := by decide +kernel
    rcases i1 with ⟨e, ds, u, a1, a2, a3, a4, a5⟩ | a1
    · rw [a1] at m1
      rcases i2 with ⟨f, es, v, b1, b2, b3, b4, b5⟩ | b1
      · rw [b1] at m2
        have ee := eMeth_ok (G := G_of_lefts M) (fA := aCons (eMeth "seen_by" (cs6 M) (G_seen_by M n) (eFld "one" (eV 0)) (aCons (eV 1) (aCons (eV 2) aNil))) (aCons (eMeth "seen_by" (cs6 M) (G_seen_by M n) (eFld "other" (eV 0)) (aCons (eV 1) (aCons (eV 2) aNil))) aNil)) s0 (nm4 M k) nof (ps := [leftV p e ds, leftV p f es]) (by rw [aCons_eq, m1, aCons_eq, m2, aNil_eq]; rfl)
        have lx := low_val w.1 a4
        have ly := low_val w.2 b4
        obtain ⟨dm, hdm⟩ : ∃ dm, dm = max (depT x) (depT y) := ⟨_, rfl⟩
        have L1 : Lf p ds (480 + 10 * dm) := ⟨a2.pr, a2.dg, a2.hd, by have := a2.len; omega⟩
        have L2 : Lf p es (480 + 10 * dm) := ⟨b2.pr, b2.dg, b2.hd, by have := b2.len; omega⟩
        rcases f_opL h k (.obj (M (nmT k)) ["one", "other"] [enc M x, enc M y]) L1 L2 (by omega) (show 10 ≤ 10 + 4 * dm by omega) (sz_le a3 (by omega)) (sz_le b3 (by omega)) lx ly a5 b5 with ⟨g1, D, wv, c1, c2, c3, c4, c5⟩ | c1
        · left
          refine ⟨g1, D, wv, rw0 _ ?_, ⟨c2.pr, c2.dg, c2.hd, ?_⟩, ?_, ?_, c5⟩
          · unfold D_Pair_seen_by
            rw [bSeq_eq, sRet_eq, ee, c1]; rfl
          · have := c2.len; show _ ≤ 480 + 10 * (1 + max (depT x) (depT y)); omega
          · show _ < 2 ^ (10 + 4 * (1 + max (depT x) (depT y)))
            rw [← hdm, show 10 + 4 * (1 + dm) = 10 + 4 * dm + 4 by omega]; exact c3
          · show ((valT x).bind fun u => (valT y).bind fun v => opT k u v) = _
            rw [a4, b4]; exact c4
        · right
          refine rw0 _ ?_
          unfold D_Pair_seen_by
          rw [bSeq_eq, sRet_eq, ee, c1]; rfl
      · rw [b1] at m2
        right
        refine rw0 _ ?_
        have ee := eMeth_exc (G := G_of_lefts M) (fA := aCons (eMeth "seen_by" (cs6 M) (G_seen_by M n) (eFld "one" (eV 0)) (aCons (eV 1) (aCons (eV 2) aNil))) (aCons (eMeth "seen_by" (cs6 M) (G_seen_by M n) (eFld "other" (eV 0)) (aCons (eV 1) (aCons (eV 2) aNil))) aNil)) s0 (nm4 M k) nof (c := "NoQuotient") (by rw [aCons_eq, m1, aCons_eq, m2]; rfl)
        unfold D_Pair_seen_by
        rw [bSeq_eq, sRet_eq, ee]; rfl
    · rw [a1] at m1
      right
      refine rw0 _ ?_
      have ee := eMeth_exc (G := G_of_lefts M) (fA := aCons (eMeth "seen_by" (cs6 M) (G_seen_by M n) (eFld "one" (eV 0)) (aCons (eV 1) (aCons (eV 2) aNil))) (aCons (eMeth "seen_by" (cs6 M) (G_seen_by M n) (eFld "other" (eV 0)) (aCons (eV 1) (aCons (eV 2) aNil))) aNil)) s0 (nm4 M k) nof (c := "NoQuotient") (by rw [aCons_eq, m1]; rfl)
      unfold D_Pair_seen_by
      rw [bSeq_eq, sRet_eq, ee]; rfl
  | .pow x K, w, n + 1, hn, hn2 => by
    have hn : 1 + depT x < n + 1 := hn
    obtain ⟨w1, w2, w3⟩ : Wf S x ∧ 1 ≤ K ∧ K ≤ 9 := w
    have i1 := g_seen h hS hp hN (t := x) w1 (n := n) (by omega) (by omega)
    have g : G_seen_by M (n + 1) (M (clsT (.pow x K))) = runF 3 (D_Power_seen_by M (G_seen_by M n)) := (pick6 h).2.2.2.2.2
    unfold SeenT
    rw [g]
    have rw0 : ∀ r, (D_Power_seen_by M (G_seen_by M n) [.val (enc M (.pow x K)), .val (.int p), .val (.int N)]).res = r → runF 3 (D_Power_seen_by M (G_seen_by M n)) [enc M (.pow x K), .int p, .int N] = r := fun r hr => (runF_eq (n := 3) (u := D_Power_seen_by M (G_seen_by M n))).trans hr
    obtain ⟨ρ, hρ⟩ : ∃ ρ : Rho, ρ = [.val (enc M (.pow x K)), .val (.int p), .val (.int N)] := ⟨_, rfl⟩
    rw [← hρ] at rw0
    have s0 : eV 0 ρ = .ok (.obj (M "Power") ["one", "n"] [enc M x, .int K]) := by rw [hρ]; rfl
    have s1 : eV 1 ρ = .ok (.int p) := by rw [hρ]; rfl
    have s2 : eV 2 ρ = .ok (.int N) := by rw [hρ]; rfl
    have o1 : eFld "one" (eV 0) ρ = .ok (.obj (M (clsT x)) (fldN x) (fldV M x)) := by rw [← enc_eq]; exact eFld_ok s0 rfl
    have o2 : eFld "n" (eV 0) ρ = .ok (.int K) := eFld_ok s0 rfl
    have ar : (aCons (eV 1) (aCons (eV 2) aNil)) ρ = .ok [.int p, .int N] := by rw [aCons_eq, s1, aCons_eq, s2, aNil_eq]; rfl
    have m1 : eMeth "seen_by" (cs6 M) (G_seen_by M n) (eFld "one" (eV 0)) (aCons (eV 1) (aCons (eV 2) aNil)) ρ = G_seen_by M n (M (clsT x)) [enc M x, .int p, .int N] := by
      rw [eMeth_ok o1 (cls6 M x) (no_meth (.inr (.inl rfl)) x) ar, ← enc_eq]
    rcases i1 with ⟨e, ds, u, a1, a2, a3, a4, a5⟩ | a1
    · rw [a1] at m1
      left
      have lx := low_val w1 a4
      have q1 := lx.pos
      have ez : (K * e).natAbs < 2 ^ (10 + 4 * (1 + depT x)) := by
        rw [show 10 + 4 * (1 + depT x) = 4 + (10 + 4 * depT x) by omega, Int.natAbs_mul, Nat.pow_add]
        exact Nat.mul_lt_mul'' (by have : (2 : Nat) ^ 4 = 16 := rfl; omega) a3
      have vp : valT (.pow x K) = some (powT u (K - 1)) := by
        show ((valT x).map fun u => powT u (K - 1)) = _
        rw [a4]; rfl
      have cr := pow_cross lx (K - 1)
      rw [show K - 1 + 1 = K by omega] at cr
      have b0 : u.2 ^ K ≠ 0 := Int.pow_ne_zero (by omega)
      have run : ∀ D, F_raised [leftV p e ds, .int K] = .ok (leftV p (K * e) D) → (D_Power_seen_by M (G_seen_by M n) ρ).res = .ok (leftV p (K * e) D) := fun D hD => by
        unfold D_Power_seen_by
        simp only [bSeq_eq, sRet_eq, eD_eq, aCons_eq, aNil_eq, m1, o2, bind1, hD]
        rfl
      by_cases hd : ds = []
      · subst hd
        refine ⟨K * e, [], powT u (K - 1), rw0 _ (run [] (f_raised_bare p e K hp (sz_le a3 (by omega)) w2 (by omega))), ⟨hp, (fun _ z => nomatch z), by simp, by simp⟩, ez, vp, ?_⟩
        obtain ⟨xx, yy, f, _⟩ := a5
        exact (bg_bare (f.pow hp K)).cross b0 cr
      · obtain ⟨t, m, z1, z2, z3, z4⟩ := nat_val (primesL_le p hp).1 K w2 (by omega)
        obtain ⟨D, c1, c2, c3, c4⟩ := f_raised6 p e ds K t m _ a2 (by omega) hd (sz_le a3 (by omega)) w2 (by omega) z2 z3 z4
        refine ⟨K * e, D, powT u (K - 1), rw0 _ (run D c1), ⟨c2.pr, c2.dg, c2.hd, ?_⟩, ez, vp, (bg_pow a2 hd a5 K t m z1 z2 c3 c4).cross b0 cr⟩
        have := c2.len
        show _ ≤ 480 + 10 * (1 + depT x)
        omega
    · rw [a1] at m1
      right
      refine rw0 _ ?_
      unfold D_Power_seen_by
      simp only [bSeq_eq, sRet_eq, eD_eq, aCons_eq, m1, bind1]
      rfl
end PM
set_option Elab.async false
set_option linter.all false
set_option maxRecDepth 100000
set_option autoImplicit false
set_option exponentiation.threshold 20000
namespace PM
open PySem PySem.Spec L2 PL
open PyProof.Rows hiding St
theorem sqT {i : Nat} {f : Rho → R PV} {k : Rho → Out} {ρ : Rho} (p : PV) {o : Out} (h : f ρ = .ok p) (g : k (ρ.set i (.val p)) = o) : bSeq (sSet i f) k ρ = o := by
  rw [bSeq_eq, sSet_eq, h, st_ok, then_next]; exact g
theorem ext_cut {p e t : Int} {ds : List Int} (ht : t ≤ e + ds.length) : Ext p e ds (min e t) (ds.take (t - e).toNat) := by
  by_cases h : t ≤ e
  · have e1 : min e t = t := by omega
    have e2 : ds.take (t - e).toNat = [] := by rw [show (t - e).toNat = 0 by omega]; rfl
    rw [e1, e2]
    refine ⟨h, by simp; omega, ⟨V p t e ds - U p [], by rw [List.length_nil, Int.pow_zero]; omega⟩⟩
  · have e1 : min e t = e := by omega
    rw [e1]
    refine ⟨by omega, by rw [List.length_take]; omega, ?_⟩
    rw [V_self]
    have l : (ds.take (t - e).toNat).length ≤ ds.length := by rw [List.length_take]; omega
    have us := U_split p (t - e).toNat ds
    have le : (ds.take (t - e).toNat).length = (t - e).toNat := by rw [List.length_take]; omega
    rw [le]
    exact ⟨U p (ds.drop (t - e).toNat), us⟩
/-- enough is known with that much farther an end -/
noncomputable def gdT (M : Str → Addr) (p : Int) (t : T) (pl far : Int) : Bool :=
  match G_seen_by M 14 (M (clsT t)) [enc M t, .int p, .int (pl + far)] with
  | .ok v => (match F_end_of [v] with
    | .ok (.int z) => decide (pl ≤ z)
    | _ => false)
  | _ => false
theorem gdT_ok {M : Str → Addr} {p : Int} {t : T} {pl far e : Int} {ds : List Int} (h : G_seen_by M 14 (M (clsT t)) [enc M t, .int p, .int (pl + far)] = .ok (leftV p e ds)) : gdT M p t pl far = decide (pl ≤ e + ds.length) := by
  unfold gdT
  rw [h]
  simp only [f_end]
theorem gdT_no {M : Str → Addr} {p : Int} {t : T} {pl far : Int} (h : G_seen_by M 14 (M (clsT t)) [enc M t, .int p, .int (pl + far)] = .exc "NoQuotient") : gdT M p t pl far = false := by
  unfold gdT
  rw [h]
theorem seen_call {M : Str → Addr} (t : T) {p N : Int} {fp fN : Rho → R PV} {ρ : Rho} (i : Nat) (h0 : eV i ρ = .ok (enc M t)) (h1 : fp ρ = .ok (.int p)) (h2 : fN ρ = .ok (.int N)) : eMeth "seen_by" (cs6 M) (G_seen_by M 14) (eV i) (aCons fp (aCons fN aNil)) ρ = G_seen_by M 14 (M (clsT t)) [enc M t, .int p, .int N] := by
  rw [enc_eq] at h0
  rw [eMeth_ok h0 (cls6 M t) (no_meth (.inr (.inl rfl)) t) (ps := [.int p, .int N]) (by rw [aCons_eq, h1, bind1, aCons_eq, h2, aNil_eq]; rfl), ← enc_eq]
theorem f_tried_ok {M : Str → Addr} {p N e : Int} {t : T} {ds : List Int} (h : G_seen_by M 14 (M (clsT t)) [enc M t, .int p, .int N] = .ok (leftV p e ds)) : F_tried M [enc M t, .int p, .int N] = .ok (leftV p e ds) := by
  refine (runF_eq (n := 4) (u := D_tried M)).trans ?_
  show (D_tried M [.val (enc M t), .val (.int p), .val (.int N), .un]).res = _
  have c := seen_call (M := M) t (p := p) (N := N) (fp := eV 1) (fN := eV 2) (ρ := [.val (enc M t), .val (.int p), .val (.int N), .un]) 0 rfl rfl rfl
  rw [h] at c
  simp [D_tried, sTryOE, c]
theorem f_tried_no {M : Str → Addr} {p N : Int} {t : T} (h : G_seen_by M 14 (M (clsT t)) [enc M t, .int p, .int N] = .exc "NoQuotient") : F_tried M [enc M t, .int p, .int N] = .ok .non := by
  refine (runF_eq (n := 4) (u := D_tried M)).trans ?_
  show (D_tried M [.val (enc M t), .val (.int p), .val (.int N), .un]).res = _
  have c := seen_call (M := M) t (p := p) (N := N) (fp := eV 1) (fN := eV 2) (ρ := [.val (enc M t), .val (.int p), .val (.int N), .un]) 0 rfl rfl rfl
  rw [h] at c
  simp [D_tried, sTryOE, c, Out.then]
theorem wo_loop {M : Str → Addr} (h : (cs6 M).Nodup) {S : Nat} (hS : S ≤ 80) {p pl : Int} (hp : p ∈ primesL) (hpl : -100 ≤ pl ∧ pl ≤ 100) {t : T} (w : Wf S t) (hd : depT t ≤ 13) : ∀ (fs : List Int) (s3 s4 : Slot), (∀ f ∈ fs, 0 ≤ f ∧ f ≤ 300) →
    ∃ o, forL (gN 3) (bSeq (sSet 4 (eD (F_tried M) (aCons (eV 0) (aCons (eV 1) (aCons (e2 addP (eVo 2) (eVo 3)) aNil))))) (bSeq (sIf (tAn (tB1 (e2 notNP (eVo 4) (eC .non))) (tB1 (e2 geP (eD F_end_of (aCons (eV 4) aNil)) (eVo 2)))) (bSeq (sRet (eD F_cut_at (aCons (eV 4) (aCons (eV 2) aNil)))) bNil) bNil) bNil)) (fs.map PV.int) [.val (enc M t), .val (.int p), .val (.int pl), s3, s4] = o ∧
      if fs.any (gdT M p t pl) = true then (∃ e ds u, o = .ret (leftV p e ds) ∧ Lf p ds 700 ∧ e + ds.length = pl ∧ valT t = some u ∧ Bg p u.1 u.2 e ds) else (∃ s3' s4', o = .next [.val (enc M t), .val (.int p), .val (.int pl), s3', s4'])
  | [], s3, s4, _ => ⟨_, rfl, by rw [List.any_nil, if_neg Bool.false_ne_true]; exact ⟨s3, s4, rfl⟩⟩
  | f :: fs, s3, s4, hf => by
    have f0 := hf f List.mem_cons_self
    rw [List.map_cons, forL_cons, gN_eq, onR_some]
    simp only [List.set_cons_succ, List.set_cons_zero]
    obtain ⟨o, q1, q2⟩ : ∃ o, o = bSeq (sSet 4 (eD (F_tried M) (aCons (eV 0) (aCons (eV 1) (aCons (e2 addP (eVo 2) (eVo 3)) aNil))))) (bSeq (sIf (tAn (tB1 (e2 notNP (eVo 4) (eC .non))) (tB1 (e2 geP (eD F_end_of (aCons (eV 4) aNil)) (eVo 2)))) (bSeq (sRet (eD F_cut_at (aCons (eV 4) (aCons (eV 2) aNil)))) bNil) bNil) bNil) [.val (enc M t), .val (.int p), .val (.int pl), .val (.int f), s4] ∧ True := ⟨_, rfl, trivial⟩
    obtain ⟨E, hE⟩ : ∃ E, E = enc M t := ⟨_, rfl⟩
    rcases g_seen h hS hp (N := pl + f) (by omega) w (n := 14) (by omega) (by omega) with ⟨e, ds, u, a1, a2, a3, a4, a5⟩ | a1
    · have tr := f_tried_ok a1
      have g := gdT_ok a1
      have l2 := a2.len
      have fe := f_end p e ds
      have nn : notNP (leftV p e ds) .non = .ok (.bl true) := rfl
      by_cases k : pl ≤ e + ds.length
      · have cu := f_cut2 p e pl ds _ a2 (by omega) k
        refine ⟨.ret (leftV p (min e pl) (ds.take (pl - e).toNat)), ?_, ?_⟩
        · have b : bSeq (sSet 4 (eD (F_tried M) (aCons (eV 0) (aCons (eV 1) (aCons (e2 addP (eVo 2) (eVo 3)) aNil))))) (bSeq (sIf (tAn (tB1 (e2 notNP (eVo 4) (eC .non))) (tB1 (e2 geP (eD F_end_of (aCons (eV 4) aNil)) (eVo 2)))) (bSeq (sRet (eD F_cut_at (aCons (eV 4) (aCons (eV 2) aNil)))) bNil) bNil) bNil) [.val (enc M t), .val (.int p), .val (.int pl), .val (.int f), s4] = .ret (leftV p (min e pl) (ds.take (pl - e).toNat)) := by
            rw [← hE] at tr ⊢
            refine sqT (leftV p e ds) (by simp only [eD_eq, aCons_eq, aNil_eq, eV0, eVs, e2_eq, eVos, eVo0, bind1, addP_ii, tr]) ?_
            simp only [List.set_cons_succ, List.set_cons_zero]
            simp [nn, fe, k, cu]
          rw [b]; rfl
        · rw [List.any_cons, g, decide_eq_true k, Bool.true_or, if_pos rfl]
          refine ⟨_, _, u, rfl, ⟨a2.pr, fun z hz => a2.dg z (List.mem_of_mem_take hz), ?_, ?_⟩, ?_, a4, bg_of_ext (primesL_le p hp).1 a5 (ext_cut k)⟩
          · have := a2.hd
            cases ds with
            | nil => simp
            | cons d r =>
              cases (pl - e).toNat with
              | zero => simp
              | succ n => simpa using this
          · rw [List.length_take]; omega
          · rw [List.length_take]; omega
      · have b : bSeq (sSet 4 (eD (F_tried M) (aCons (eV 0) (aCons (eV 1) (aCons (e2 addP (eVo 2) (eVo 3)) aNil))))) (bSeq (sIf (tAn (tB1 (e2 notNP (eVo 4) (eC .non))) (tB1 (e2 geP (eD F_end_of (aCons (eV 4) aNil)) (eVo 2)))) (bSeq (sRet (eD F_cut_at (aCons (eV 4) (aCons (eV 2) aNil)))) bNil) bNil) bNil) [.val (enc M t), .val (.int p), .val (.int pl), .val (.int f), s4] = .next [.val (enc M t), .val (.int p), .val (.int pl), .val (.int f), .val (leftV p e ds)] := by
          rw [← hE] at tr ⊢
          refine sqT (leftV p e ds) (by simp only [eD_eq, aCons_eq, aNil_eq, eV0, eVs, e2_eq, eVos, eVo0, bind1, addP_ii, tr]) ?_
          simp only [List.set_cons_succ, List.set_cons_zero]
          simp [nn, fe, k]
        obtain ⟨o, i1, i2⟩ := wo_loop h hS hp hpl w hd fs (.val (.int f)) (.val (leftV p e ds)) (fun z hz => hf z (List.mem_cons_of_mem _ hz))
        refine ⟨o, by rw [b]; exact i1, ?_⟩
        rw [List.any_cons, g, decide_eq_false k, Bool.false_or]
        exact i2
    · have tr := f_tried_no a1
      have g := gdT_no a1
      have nn : notNP .non .non = .ok (.bl false) := rfl
      have b : bSeq (sSet 4 (eD (F_tried M) (aCons (eV 0) (aCons (eV 1) (aCons (e2 addP (eVo 2) (eVo 3)) aNil))))) (bSeq (sIf (tAn (tB1 (e2 notNP (eVo 4) (eC .non))) (tB1 (e2 geP (eD F_end_of (aCons (eV 4) aNil)) (eVo 2)))) (bSeq (sRet (eD F_cut_at (aCons (eV 4) (aCons (eV 2) aNil)))) bNil) bNil) bNil) [.val (enc M t), .val (.int p), .val (.int pl), .val (.int f), s4] = .next [.val (enc M t), .val (.int p), .val (.int pl), .val (.int f), .val .non] := by
        rw [← hE] at tr ⊢
        refine sqT .non (by simp only [eD_eq, aCons_eq, aNil_eq, eV0, eVs, e2_eq, eVos, eVo0, bind1, addP_ii, tr]) ?_
        simp only [List.set_cons_succ, List.set_cons_zero]
        simp [nn]
      obtain ⟨o, i1, i2⟩ := wo_loop h hS hp hpl w hd fs (.val (.int f)) (.val .non) (fun z hz => hf z (List.mem_cons_of_mem _ hz))
      refine ⟨o, by rw [b]; exact i1, ?_⟩
      rw [List.any_cons, g, Bool.false_or]
      exact i2
def farL : List Int := [0, 1, 2, 4, 8, 16, 32, 64, 128, 256]
theorem f_worked {M : Str → Addr} (h : (cs6 M).Nodup) {S : Nat} (hS : S ≤ 80) {p pl : Int} (hp : p ∈ primesL) (hpl : -100 ≤ pl ∧ pl ≤ 100) {t : T} (w : Wf S t) (hd : depT t ≤ 13) :
    if farL.any (gdT M p t pl) = true then (∃ e ds u, F_worked_out M [enc M t, .int p, .int pl] = .ok (leftV p e ds) ∧ Lf p ds 700 ∧ e + ds.length = pl ∧ valT t = some u ∧ Bg p u.1 u.2 e ds) else F_worked_out M [enc M t, .int p, .int pl] = .exc "NoQuotient" := by
  obtain ⟨o, q1, q2⟩ := wo_loop h hS hp hpl w hd farL .un .un (by decide)
  have r : F_worked_out M [enc M t, .int p, .int pl] = (o.then (bSeq (sRaise "NoQuotient") bNil)).res := by
    refine (runF_eq (n := 5) (u := D_worked_out M)).trans ?_
    show (D_worked_out M [.val (enc M t), .val (.int p), .val (.int pl), .un, .un]).res = _
    have it : iS (eC (.tup (farL.map PV.int))) [.val (enc M t), .val (.int p), .val (.int pl), .un, .un] = .ok (farL.map PV.int) := rfl
    unfold D_worked_out
    rw [bSeq_eq, sFor_eq]
    rw [show (([0, 1, 2, 4, 8, 16, 32, 64, 128, 256] : List Int)) = farL from rfl, it, stL_ok, q1]
  by_cases z : farL.any (gdT M p t pl) = true
  · rw [if_pos z] at q2 ⊢
    obtain ⟨e, ds, u, rfl, q3⟩ := q2
    exact ⟨e, ds, u, r, q3⟩
  · rw [if_neg z] at q2 ⊢
    obtain ⟨s3, s4, rfl⟩ := q2
    rw [r]
    rfl
end PM
set_option Elab.async false
set_option linter.all false
set_option maxRecDepth 100000
set_option autoImplicit false
namespace K95
open PySem PySem.Spec L2 PL PM
open PyProof.Rows hiding St
noncomputable def D__law_cell_at : Rho → Out := (bSeq (sIf (tB1 (e2 ltP (eVo 1) (eD lenP (aCons (eVo 0) aNil)))) (bSeq (sRet (e2 ixP (eVo 0) (eVo 1))) bNil) bNil) (bSeq (sRet (eC (.int 0))) bNil))
noncomputable def F__law_cell_at : List PV → R PV := runF 2 D__law_cell_at
noncomputable def D__law_prime : Rho → Out := (bSeq (sSet 1 (eD lstP (aCons (eC (.int 2)) (aCons (eC (.int 3)) (aCons (eC (.int 5)) (aCons (eC (.int 7)) (aCons (eC (.int 11)) (aCons (eC (.int 13)) (aCons (eC (.int 17)) (aCons (eC (.int 19)) (aCons (eC (.int 23)) (aCons (eC (.int 29)) (aCons (eC (.int 31)) (aCons (eC (.int 37)) (aCons (eC (.int 41)) (aCons (eC (.int 43)) (aCons (eC (.int 47)) (aCons (eC (.int 53)) (aCons (eC (.int 59)) (aCons (eC (.int 61)) (aCons (eC (.int 67)) (aCons (eC (.int 71)) (aCons (eC (.int 73)) (aCons (eC (.int 79)) (aCons (eC (.int 83)) (aCons (eC (.int 89)) (aCons (eC (.int 97)) aNil))))))))))))))))))))))))))) (bSeq (sRet (e2 ixP (eVo 1) (e2 modP (eVo 0) (eC (.int 25))))) bNil))
noncomputable def F__law_prime : List PV → R PV := runF 2 D__law_prime
noncomputable def D__law_times : Rho → Out := (bSeq (sSet 2 (eC (.int 1))) (bSeq (sFor (iR rng1 (aCons (eVo 1) aNil)) (gN 3) (bSeq (sSet 2 (e2 mulP (eVo 2) (eVo 0))) bNil)) (bSeq (sRet (eV 2)) bNil)))
noncomputable def F__law_times : List PV → R PV := runF 4 D__law_times
noncomputable def D__law_lowest : Rho → Out := (bSeq (sSet 2 (eD absP (aCons (eVo 0) aNil))) (bSeq (sSet 3 (eD absP (aCons (eVo 1) aNil))) (bSeq (sWh (tB1 (e2 neP (eVo 3) (eC (.int 0)))) (bSeq (sPar 2 3 (aCons (eV 3) (aCons (e2 modP (eVo 2) (eVo 3)) aNil))) bNil)) (bSeq (sRet (eD tupP (aCons (e2 fdivP (eVo 0) (eVo 2)) (aCons (e2 fdivP (eVo 1) (eVo 2)) aNil)))) bNil))))
noncomputable def F__law_lowest : List PV → R PV := runF 4 D__law_lowest
noncomputable def D__law_part (M : Str → Addr) : Rho → Out := (bSeq (sSet 2 (e2 subP (e2 modP (e2 fdivP (eVo 1) (eC (.int 4))) (eC (.int 41))) (eC (.int 20)))) (bSeq (sSet 3 (e2 addP (eC (.int 1)) (e2 modP (e2 fdivP (eVo 1) (eC (.int 164))) (eC (.int 12))))) (bSeq (sIf (tB1 (e2 eqP (e2 modP (eVo 1) (eC (.int 4))) (eC (.int 2)))) (bSeq (sSet 2 (e2 subP (e2 modP (e2 fdivP (eVo 1) (eC (.int 4))) (e2 addP (e2 mulP (eC (.int 2)) (e2 powP (eC (.int 10)) (eC (.int 19)))) (eC (.int 1)))) (e2 powP (eC (.int 10)) (eC (.int 19))))) (bSeq (sSet 3 (e2 addP (eC (.int 1)) (e2 modP (e2 fdivP (e2 fdivP (eVo 1) (eC (.int 4))) (e2 addP (e2 mulP (eC (.int 2)) (e2 powP (eC (.int 10)) (eC (.int 19)))) (eC (.int 1)))) (e2 powP (eC (.int 10)) (eC (.int 19)))))) bNil)) bNil) (bSeq (sIf (tB1 (e2 eqP (e2 modP (eVo 1) (eC (.int 4))) (eC (.int 3)))) (bSeq (sSet 2 (e2 mulP (eVo 2) (eD F__law_times (aCons (eV 0) (aCons (e2 modP (e2 fdivP (eVo 1) (eC (.int 1968))) (eC (.int 4))) aNil))))) (bSeq (sSet 3 (e2 mulP (eVo 3) (eD F__law_times (aCons (eV 0) (aCons (e2 modP (e2 fdivP (eVo 1) (eC (.int 7872))) (eC (.int 4))) aNil))))) bNil)) bNil) (bSeq (sRet (eD lstP (aCons (eMk (M "Part") ["part"] (aCons (eD F__law_lowest (aCons (eV 2) (aCons (eV 3) aNil))) aNil)) (aCons (eC (.int 1)) (aCons (eC (.int 0)) aNil))))) bNil)))))
noncomputable def F__law_part (M : Str → Addr) : List PV → R PV := runF 4 (D__law_part M)
noncomputable def D__law_of_two (M : Str → Addr) : Rho → Out := (bSeq (sIf (tB1 (e2 eqP (eVo 0) (eC (.int 0)))) (bSeq (sSet 3 (eMk (M "Sum") ["one", "other"] (aCons (e2 ixP (eVo 1) (eC (.int 0))) (aCons (e2 ixP (eVo 2) (eC (.int 0))) aNil)))) bNil) (bSeq (sIf (tB1 (e2 eqP (eVo 0) (eC (.int 1)))) (bSeq (sSet 3 (eMk (M "Difference") ["one", "other"] (aCons (e2 ixP (eVo 1) (eC (.int 0))) (aCons (e2 ixP (eVo 2) (eC (.int 0))) aNil)))) bNil) (bSeq (sIf (tB1 (e2 eqP (eVo 0) (eC (.int 2)))) (bSeq (sSet 3 (eMk (M "Product") ["one", "other"] (aCons (e2 ixP (eVo 1) (eC (.int 0))) (aCons (e2 ixP (eVo 2) (eC (.int 0))) aNil)))) bNil) (bSeq (sSet 3 (eMk (M "Quotient") ["one", "other"] (aCons (e2 ixP (eVo 1) (eC (.int 0))) (aCons (e2 ixP (eVo 2) (eC (.int 0))) aNil)))) bNil)) bNil)) bNil)) (bSeq (sRet (eD lstP (aCons (eV 3) (aCons (e2 addP (e2 ixP (eVo 1) (eC (.int 1))) (e2 ixP (eVo 2) (eC (.int 1)))) (aCons (e2 addP (eC (.int 1)) (eD maxP (aCons (e2 ixP (eVo 1) (eC (.int 2))) (aCons (e2 ixP (eVo 2) (eC (.int 2))) aNil)))) aNil))))) bNil))
noncomputable def F__law_of_two (M : Str → Addr) : List PV → R PV := runF 4 (D__law_of_two M)
noncomputable def D__law_room : Rho → Out := (bSeq (sIf (tAn (tB1 (e2 ltP (eVo 1) (eC (.int 4)))) (tB1 (e2 gtP (eD lenP (aCons (eVo 0) aNil)) (eC (.int 1))))) (bSeq (sRet (eAn (e2 leP (e2 addP (e2 ixP (e2 ixP (eVo 0) (e1 negP (eC (.int 2)))) (eC (.int 1))) (e2 ixP (e2 ixP (eVo 0) (e1 negP (eC (.int 1)))) (eC (.int 1)))) (eC (.int 10))) (e2 ltP (eD maxP (aCons (e2 ixP (e2 ixP (eVo 0) (e1 negP (eC (.int 2)))) (eC (.int 2))) (aCons (e2 ixP (e2 ixP (eVo 0) (e1 negP (eC (.int 1)))) (eC (.int 2))) aNil))) (eC (.int 6))))) bNil) bNil) (bSeq (sRet (eOr (e2 neP (eVo 1) (eC (.int 4))) (eAn (e2 leP (e2 mulP (eVo 2) (e2 ixP (e2 ixP (eVo 0) (e1 negP (eC (.int 1)))) (eC (.int 1)))) (eC (.int 10))) (e2 ltP (e2 ixP (e2 ixP (eVo 0) (e1 negP (eC (.int 1)))) (eC (.int 2))) (eC (.int 6)))))) bNil))
noncomputable def F__law_room : List PV → R PV := runF 3 D__law_room
noncomputable def D__law_term (M : Str → Addr) : Rho → Out := (bSeq (sSetO 2 (eD lstP (aCons (eD (F__law_part M) (aCons (eV 0) (aCons (eD sumPL (aCons (eSl slP (eVo 1) oNone (oSome (eC (.int 1)))) aNil)) aNil))) aNil))) (bSeq (sFor (iS (eSl slP (eVo 1) (oSome (eC (.int 1))) oNone)) (gN 3) (bSeq (sSet 4 (e2 modP (eVo 3) (eC (.int 7)))) (bSeq (sSet 5 (e2 addP (eC (.int 1)) (e2 modP (e2 fdivP (eVo 3) (eC (.int 7))) (eC (.int 9))))) (bSeq (sIf (tLend 2 (tB1 (eD F__law_room (aCons (eV 2) (aCons (eV 4) (aCons (eV 5) aNil)))))) (bSeq (sIf (tAn (tB1 (e2 ltP (eVo 4) (eC (.int 4)))) (tB1 (e2 gtP (eD lenP (aCons (eVo 2) aNil)) (eC (.int 1))))) (bSeq (sSetO 2 (e2 addL (eSl slP (eVo 2) oNone (oSome (e1 negP (eC (.int 2))))) (eD lstP (aCons (eD (F__law_of_two M) (aCons (eV 4) (aCons (e2 ixP (eVo 2) (e1 negP (eC (.int 2)))) (aCons (e2 ixP (eVo 2) (e1 negP (eC (.int 1)))) aNil)))) aNil)))) bNil) (bSeq (sIf (tB1 (e2 eqP (eVo 4) (eC (.int 4)))) (bSeq (sSetO 2 (e2 addL (eSl slP (eVo 2) oNone (oSome (e1 negP (eC (.int 1))))) (eD lstP (aCons (eD lstP (aCons (eMk (M "Power") ["one", "n"] (aCons (e2 ixP (e2 ixP (eVo 2) (e1 negP (eC (.int 1)))) (eC (.int 0))) (aCons (eV 5) aNil))) (aCons (e2 mulP (eVo 5) (e2 ixP (e2 ixP (eVo 2) (e1 negP (eC (.int 1)))) (eC (.int 1)))) (aCons (e2 addP (eC (.int 1)) (e2 ixP (e2 ixP (eVo 2) (e1 negP (eC (.int 1)))) (eC (.int 2)))) aNil)))) aNil)))) bNil) (bSeq (sMut 2 appP (eD (F__law_part M) (aCons (eV 0) (aCons (e2 fdivP (eVo 3) (eC (.int 7))) aNil)))) bNil)) bNil)) bNil) bNil) bNil)))) (bSeq (sRet (e2 ixP (e2 ixP (eVo 2) (e1 negP (eC (.int 1)))) (eC (.int 0)))) bNil)))
noncomputable def F__law_term (M : Str → Addr) : List PV → R PV := runF 6 (D__law_term M)
noncomputable def D__law_small (M : Str → Addr) : Rho → Out := (bSeq (sSet 2 (eC (.int 1))) (bSeq (sFor (iR rng1 (aCons (eVo 1) aNil)) (gN 3) (bSeq (sIf (tB1 (e2 ltP (e2 mulP (eVo 2) (eVo 0)) (e2 powP (eC (.int 10)) (eC (.int 20))))) (bSeq (sSet 2 (e2 mulP (eVo 2) (eVo 0))) bNil) bNil) bNil)) (bSeq (sRet (eMk (M "Part") ["part"] (aCons (eD tupP (aCons (eV 2) (aCons (eC (.int 1)) aNil))) aNil))) bNil)))
noncomputable def F__law_small (M : Str → Addr) : List PV → R PV := runF 4 (D__law_small M)
noncomputable def D__law_near (M : Str → Addr) : Rho → Out := (bSeq (sSet 3 (eMk (M "Product") ["one", "other"] (aCons (eD (F__law_small M) (aCons (eV 0) (aCons (e2 modP (e2 fdivP (eVo 2) (eC (.int 4))) (eC (.int 30))) aNil))) (aCons (eD (F__law_small M) (aCons (eV 0) (aCons (e2 modP (e2 fdivP (eVo 2) (eC (.int 240))) (eC (.int 60))) aNil))) aNil)))) (bSeq (sSet 4 (eMk (M "Difference") ["one", "other"] (aCons (eMk (M "Sum") ["one", "other"] (aCons (eV 1) (aCons (eV 3) aNil))) (aCons (eV 1) aNil)))) (bSeq (sIf (tB1 (e2 eqP (e2 modP (e2 fdivP (eVo 2) (eC (.int 120))) (eC (.int 2))) (eC (.int 1)))) (bSeq (sSet 4 (eMk (M "Quotient") ["one", "other"] (aCons (eMk (M "Part") ["part"] (aCons (eD tupP (aCons (eC (.int 1)) (aCons (eC (.int 1)) aNil))) aNil)) (aCons (eV 4) aNil)))) bNil) bNil) (bSeq (sRet (eV 4)) bNil))))
noncomputable def F__law_near (M : Str → Addr) : List PV → R PV := runF 5 (D__law_near M)
noncomputable def D__law_enough (M : Str → Addr) : Rho → Out := (bSeq (sFor (iS (eD lstP (aCons (eC (.int 0)) (aCons (eC (.int 1)) (aCons (eC (.int 2)) (aCons (eC (.int 4)) (aCons (eC (.int 8)) (aCons (eC (.int 16)) (aCons (eC (.int 32)) (aCons (eC (.int 64)) (aCons (eC (.int 128)) (aCons (eC (.int 256)) aNil)))))))))))) (gN 3) (bSeq (sSet 4 (eC (.bl false))) (bSeq (sTryO "NoQuotient" (bSeq (sSet 4 (e2 geP (eD F_end_of (aCons (eMeth "seen_by" (cs6 M) (G_seen_by M 14) (eV 0) (aCons (eV 1) (aCons (e2 addP (eVo 2) (eVo 3)) aNil))) aNil)) (eVo 2))) bNil) (bSeq (sSet 4 (eC (.bl false))) bNil)) (bSeq (sIf (tB1 (eV 4)) (bSeq (sRet (eC (.bl true))) bNil) bNil) bNil)))) (bSeq (sRet (eC (.bl false))) bNil))
noncomputable def F__law_enough (M : Str → Addr) : List PV → R PV := runF 5 (D__law_enough M)
noncomputable def D__law_refused (M : Str → Addr) : Rho → Out := (bSeq (sSet 3 (eC (.bl false))) (bSeq (sTryO "NoQuotient" (bSeq (sDrop (eD (F_worked_out M) (aCons (eV 0) (aCons (eV 1) (aCons (eV 2) aNil))))) bNil) (bSeq (sSet 3 (eC (.bl true))) bNil)) (bSeq (sRet (eV 3)) bNil)))
noncomputable def F__law_refused (M : Str → Addr) : List PV → R PV := runF 4 (D__law_refused M)
noncomputable def D_law (M : Str → Addr) : Rho → Out := (bSeq (sSet 1 (eD F__law_prime (aCons (eD F__law_cell_at (aCons (eV 0) (aCons (eC (.int 0)) aNil))) aNil))) (bSeq (sSet 2 (e2 subP (e2 modP (eD F__law_cell_at (aCons (eV 0) (aCons (eC (.int 1)) aNil))) (eC (.int 61))) (eC (.int 30)))) (bSeq (sSet 3 (eD (F__law_term M) (aCons (eV 1) (aCons (eSl slP (eVo 0) (oSome (eC (.int 3))) (oSome (eC (.int 63)))) aNil)))) (bSeq (sSet 4 (eD F__law_cell_at (aCons (eV 0) (aCons (eC (.int 2)) aNil)))) (bSeq (sIf (tB1 (e2 eqP (e2 modP (eVo 4) (eC (.int 4))) (eC (.int 3)))) (bSeq (sSet 3 (eD (F__law_near M) (aCons (eV 1) (aCons (eV 3) (aCons (eV 4) aNil))))) bNil) bNil) (bSeq (sIf (tNt (tB1 (eD (F__law_enough M) (aCons (eV 3) (aCons (eV 1) (aCons (eV 2) aNil)))))) (bSeq (sRet (eAn (eD (F__law_refused M) (aCons (eV 3) (aCons (eV 1) (aCons (eV 2) aNil)))) (eD (F__law_refused M) (aCons (eV 3) (aCons (eV 1) (aCons (eV 2) aNil)))))) bNil) bNil) (bSeq (sSet 5 (eD F_seen_left (aCons (eV 1) (aCons (eMeth "value" (cs6 M) (G_value M 14) (eV 3) aNil) (aCons (eV 2) aNil))))) (bSeq (sFor (iR rng1 (aCons (eC (.int 2)) aNil)) (gN 6) (bSeq (sSet 7 (eD (F_worked_out M) (aCons (eV 3) (aCons (eV 1) (aCons (eV 2) aNil))))) (bSeq (sIf (tOr' (tNt (tB1 (eD F_is_left (aCons (eV 7) aNil)))) (tB1 (e2 neP (eVo 7) (eVo 5)))) (bSeq (sRet (eC (.bl false))) bNil) bNil) bNil))) (bSeq (sRet (eC (.bl true))) bNil)))))))))
noncomputable def F_law (M : Str → Addr) : List PV → R PV := runF 8 (D_law M)
end K95
set_option Elab.async false
set_option linter.all false
set_option maxRecDepth 100000
set_option autoImplicit false
set_option exponentiation.threshold 20000
set_option maxHeartbeats 0
namespace K95
open PySem PySem.Spec L2 PL PM
open PyProof.Rows hiding St
theorem f_cell (ns : List Int) (k : Int) (h : 0 ≤ k) : F__law_cell_at [.frz (ns.map PV.int), .int k] = .ok (.int (nth ns k)) := by
  show (D__law_cell_at [.val (.frz (ns.map PV.int)), .val (.int k)]).res = _
  by_cases hk : k < ns.length
  · simp [D__law_cell_at, hk, ixP_intsF h hk]
  · have : ns[k.toNat]? = none := List.getElem?_eq_none (by omega)
    simp [D__law_cell_at, hk, nth, this]
theorem f_prime (c : Int) : F__law_prime [.int c] = .ok (.int (nth primesL (c % 25))) := by
  show (D__law_prime [.val (.int c), .un]).res = _
  have h25 : primesL.length = 25 := rfl
  have hl : lstP [.int 2, .int 3, .int 5, .int 7, .int 11, .int 13, .int 17, .int 19, .int 23, .int 29, .int 31, .int 37, .int 41, .int 43, .int 47, .int 53, .int 59, .int 61, .int 67, .int 71, .int 73, .int 79, .int 83, .int 89, .int 97] = .ok (.lst (primesL.map PV.int)) := lstP_ok (ps := primesL.map PV.int) (by rw [List.length_map]; omega)
  have e : ixP (.lst (primesL.map PV.int)) (.int (c % 25)) = .ok (.int (nth primesL (c % 25))) := ixP_ints (ns := primesL) (by omega) (by omega)
  have m := modP_pos (a := c) (b := 25) (by omega)
  simp only [D__law_prime, bSeq_eq, sSet_eq, eD_eq, aCons_eq, eC_eq, bind1, aNil_eq, hl, st_ok, then_next, List.set_cons_succ, List.set_cons_zero, sRet_eq, e2_eq, eVos, eVo0, m, e, then_ret, res_ret]
theorem prime_in (c : Int) : nth primesL (c % 25) ∈ primesL := nth_mem (by omega) (by have : primesL.length = 25 := rfl; omega)
theorem f_times_l (p t : Int) (hp : p.natAbs < 2 ^ 60) (h0 : 0 ≤ t) (h1 : t ≤ 10000) : F__law_times [.int p, .int t] = .ok (.int (p ^ t.toNat)) := by
  refine (runF_eq (n := 4) (u := D__law_times)).trans ?_
  show (D__law_times [.val (.int p), .val (.int t), .un, .un]).res = _
  have hl := mul_loop (i := 2) (j := 0) (a := 3) (ρ := [.val (.int p), .val (.int t), .val (.int 1), .un]) (x := 1) (y := p) t.toNat rfl rfl (by omega) (by omega) (by omega) (by simp) (by decide) hp (by omega)
  have hr : rng1 [.int t] = .ok (rngL 0 t.toNat) := rng1_sm (by omega) (by omega)
  simp [D__law_times, hr, hl]
theorem asc {a u k : Rho → Out} {ρ : Rho} {r : R PV} (g : (bSeq a (bSeq u k) ρ).res = r) : (bSeq (bSeq a u) k ρ).res = r := by
  rw [bSeq_eq, bSeq_eq]
  rw [bSeq_eq] at g
  rw [← g]
  cases a ρ <;> rfl
theorem nil_k {k : Rho → Out} {ρ : Rho} {r : R PV} (g : (k ρ).res = r) : (bSeq bNil k ρ).res = r := g
theorem fo2 {b : Out} {ρ : Rho} {k : Rho → Out} (h : b = .next ρ) : Out.fo b k = k ρ := by rw [h, fo_next]
theorem gcd_run2 (A B : Slot) : ∀ (y x : Nat),
    sWh (tB1 (e2 neP (eVo 3) (eC (.int 0)))) (bSeq (sPar 2 3 (aCons (eV 3) (aCons (e2 modP (eVo 2) (eVo 3)) aNil))) bNil) [A, B, .val (.int x), .val (.int y)] = .next [A, B, .val (.int (Nat.gcd x y)), .val (.int 0)] := by
  intro y
  induction y using Nat.strongRecOn with
  | _ y ih =>
    intro x
    rw [sWh_eq]
    by_cases h : y = 0
    · subst h; simp
    · have hy : (0 : Int) < y := by omega
      have hn : ((y : Int) == 0) = false := by rw [beq_eq_false_iff_ne]; omega
      have i := ih (x % y) (Nat.mod_lt x (by omega)) y
      have e : ((x : Int) % (y : Int)) = ((x % y : Nat) : Int) := by omega
      have g : Nat.gcd y (x % y) = Nat.gcd x y := by rw [Nat.gcd_comm x y, Nat.gcd_rec y x, Nat.gcd_comm (x % y) y]
      rw [g, ← e] at i
      simp [h, modP_pos hy, i, hn]
theorem f_lowest (t b : Int) (hb : 0 < b) (hz : b.natAbs < 2 ^ 8000) : F__law_lowest [.int t, .int b] = .ok (fracV (ftop t b) (fbot t b)) := by
  refine (runF_eq (n := 4) (u := D__law_lowest)).trans ?_
  show (D__law_lowest [.val (.int t), .val (.int b), .un, .un]).res = _
  have hn : b ≠ 0 := by omega
  have hg := gcd_pos (t := t) hn
  have hle : Int.gcd t b ≤ b.natAbs := Nat.le_of_dvd (by omega) (Int.gcd_dvd_natAbs_right t b)
  have e : fs t b = (Int.gcd t b : Int) := by unfold fs; rw [if_neg (by omega)]
  have hzs : (fs t b).natAbs < 2 ^ 9000 := by
    have : (2 : Nat) ^ 8000 ≤ 2 ^ 9000 := Nat.pow_le_pow_right (by omega) (by omega)
    rw [e]; omega
  have d1 : fdivP (.int t) (.int (fs t b)) = .ok (.int (ftop t b)) := by
    rw [fdivP_ii (fs_ne hn) hzs, Int.fdiv_eq_ediv_of_dvd (fs_dvd_t t b)]; rfl
  have d2 : fdivP (.int b) (.int (fs t b)) = .ok (.int (fbot t b)) := by
    rw [fdivP_ii (fs_ne hn) hzs, Int.fdiv_eq_ediv_of_dvd (fs_dvd_b t b)]; rfl
  rw [e] at d1 d2
  have r := gcd_run2 (.val (.int t)) (.val (.int b)) b.natAbs t.natAbs
  rw [show Nat.gcd t.natAbs b.natAbs = Int.gcd t b from rfl] at r
  unfold D__law_lowest
  refine stp (.int t.natAbs) (by simp) ?_
  simp only [List.set_cons_succ, List.set_cons_zero]
  refine stp (.int b.natAbs) (by simp) ?_
  simp only [List.set_cons_succ, List.set_cons_zero]
  refine stpN r ?_
  simp [d1, d2, fracV]
def itV (M : Str → Addr) (x : T × Nat) : PV := .lst [enc M x.1, .int x.2, .int (depT x.1)]
structure It (x : T × Nat) : Prop where
  wf : Wf 67 x.1
  w1 : 1 ≤ x.2
  w10 : x.2 ≤ 10
  dep : depT x.1 ≤ 6
  bits : bitsT 67 x.1 + 1 ≤ 68 * x.2
theorem frac_wf {t b : Int} (hb : 0 < b) (h1 : t.natAbs < 2 ^ 67) (h2 : b.natAbs < 2 ^ 67) : Wf 67 (.part (ftop t b) (fbot t b)) := by
  have hb' : b ≠ 0 := by omega
  exact ⟨fbot_pos hb', flow hb', Nat.lt_of_le_of_lt (ftop_le hb') h1, Nat.lt_of_le_of_lt (fbot_le hb') h2⟩
theorem pw_small {p : Int} (hp : 2 ≤ p ∧ p < 127) {k : Int} (h0 : 0 ≤ k) (h3 : k ≤ 3) : 1 ≤ p ^ k.toNat ∧ p ^ k.toNat ≤ 2048383 := by
  obtain ⟨n, rfl⟩ : ∃ n : Nat, k = n := ⟨k.toNat, by omega⟩
  rw [Int.toNat_natCast]
  have b2 : p * p ≤ 127 * 127 := Int.mul_le_mul (by omega) (by omega) (by omega) (by omega)
  have b3 : p * p * p ≤ 127 * 127 * 127 := Int.mul_le_mul b2 (by omega) (by omega) (by omega)
  have g : 0 < p ^ n := Int.pow_pos (by omega)
  match n with
  | 0 => rw [Int.pow_zero]; omega
  | 1 => rw [Int.pow_one]; omega
  | 2 => rw [show p ^ 2 = p * p by grind] at *; omega
  | 3 => rw [show p ^ 3 = p * p * p by grind] at *; omega
  | n + 4 => omega
theorem f_part {M : Str → Addr} (p c : Int) (hp : p ∈ primesL) : ∃ x, F__law_part M [.int p, .int c] = .ok (itV M x) ∧ It x := by
  have hpb := primesL_le p hp
  have fin : ∀ t b : Int, 0 < b → t.natAbs < 2 ^ 67 → b.natAbs < 2 ^ 67 → ∃ x, R.ok (itV M (.part (ftop t b) (fbot t b), 1)) = .ok (itV M x) ∧ It x := fun t b h0 h1 h2 => ⟨_, rfl, frac_wf h0 h1 h2, by show 1 ≤ 1; omega, by show 1 ≤ 10; omega, by show 0 ≤ 6; omega, by show 67 + 1 ≤ 68 * 1; omega⟩
  have run : ∀ t b : Int, F__law_part M [.int p, .int c] = (bSeq (sRet (eD lstP (aCons (eMk (M "Part") ["part"] (aCons (eD F__law_lowest (aCons (eV 2) (aCons (eV 3) aNil))) aNil)) (aCons (eC (.int 1)) (aCons (eC (.int 0)) aNil))))) bNil [.val (.int p), .val (.int c), .val (.int t), .val (.int b)]).res → 0 < b → t.natAbs < 2 ^ 67 → b.natAbs < 2 ^ 67 → ∃ x, F__law_part M [.int p, .int c] = .ok (itV M x) ∧ It x := fun t b e h0 h1 h2 => by
    rw [e]
    have l := f_lowest t b h0 (sz_le h2 (by omega))
    have mk : eMk (M "Part") ["part"] (aCons (eD F__law_lowest (aCons (eV 2) (aCons (eV 3) aNil))) aNil) [.val (.int p), .val (.int c), .val (.int t), .val (.int b)] = .ok (enc M (.part (ftop t b) (fbot t b))) := by
      unfold eMk
      simp [l]; rfl
    obtain ⟨x, q1, q2⟩ := fin t b h0 h1 h2
    refine ⟨x, ?_, q2⟩
    rw [← q1]
    simp [mk, itV, lstP_ok, depT]
  have m4 := modP_pos (a := c) (b := 4) (by omega)
  by_cases c2 : c % 4 = 2
  · refine run (c / 4 % 20000000000000000001 - 10000000000000000000) (1 + c / 4 / 20000000000000000001 % 10000000000000000000) ?_ (by omega) (by omega) (by omega)
    refine (runF_eq (n := 4) (u := D__law_part M)).trans ?_
    show (D__law_part M [.val (.int p), .val (.int c), .un, .un]).res = _
    unfold D__law_part
    have p19 : powP (.int 10) (.int 19) = .ok (.int 10000000000000000000) := powP_sm (by omega) (by omega) (by omega) (by omega)
    refine stp (.int (c / 4 % 41 - 20)) (by simp (disch := omega) [modP_pos, fdivP_sm]) ?_
    simp only [List.set_cons_succ, List.set_cons_zero]
    refine stp (.int (1 + c / 164 % 12)) (by simp (disch := omega) [modP_pos, fdivP_sm]) ?_
    simp only [List.set_cons_succ, List.set_cons_zero]
    refine ifT (by simp [m4, c2]) ?_
    refine asc ?_
    refine stp (.int (c / 4 % 20000000000000000001 - 10000000000000000000)) (by simp (disch := omega) [modP_pos, fdivP_sm, mulP_sm, p19]) ?_
    simp only [List.set_cons_succ, List.set_cons_zero]
    refine asc ?_
    refine stp (.int (1 + c / 4 / 20000000000000000001 % 10000000000000000000)) (by simp (disch := omega) [modP_pos, fdivP_sm, mulP_sm, p19]) ?_
    simp only [List.set_cons_succ, List.set_cons_zero]
    refine nil_k ?_
    exact skp (by simp [m4, c2]) rfl
  · have c2' : (c % 4 == 2) = false := by simpa using c2
    by_cases c3 : c % 4 = 3
    · have f1 := f_times_l p (c / 1968 % 4) (by omega) (by omega) (by omega)
      have f2 := f_times_l p (c / 7872 % 4) (by omega) (by omega) (by omega)
      obtain ⟨a1, a2⟩ := pw_small (p := p) (by omega) (show 0 ≤ c / 1968 % 4 by omega) (by omega)
      obtain ⟨b1, b2⟩ := pw_small (p := p) (by omega) (show 0 ≤ c / 7872 % 4 by omega) (by omega)
      generalize p ^ (c / 1968 % 4).toNat = A at *
      generalize p ^ (c / 7872 % 4).toNat = B at *
      have z1 : ((c / 4 % 41 - 20) * A).natAbs < 2 ^ 30 := by
        rw [Int.natAbs_mul]
        have : (c / 4 % 41 - 20).natAbs * A.natAbs ≤ 20 * 2048383 := Nat.mul_le_mul (by omega) (by omega)
        omega
      have z2 : ((1 + c / 164 % 12) * B).natAbs < 2 ^ 30 := by
        rw [Int.natAbs_mul]
        have : (1 + c / 164 % 12).natAbs * B.natAbs ≤ 12 * 2048383 := Nat.mul_le_mul (by omega) (by omega)
        omega
      have z3 : 0 < (1 + c / 164 % 12) * B := Int.mul_pos (by omega) (by omega)
      refine run ((c / 4 % 41 - 20) * A) ((1 + c / 164 % 12) * B) ?_ z3 (by omega) (by omega)
      refine (runF_eq (n := 4) (u := D__law_part M)).trans ?_
      show (D__law_part M [.val (.int p), .val (.int c), .un, .un]).res = _
      unfold D__law_part
      refine stp (.int (c / 4 % 41 - 20)) (by simp (disch := omega) [modP_pos, fdivP_sm]) ?_
      simp only [List.set_cons_succ, List.set_cons_zero]
      refine stp (.int (1 + c / 164 % 12)) (by simp (disch := omega) [modP_pos, fdivP_sm]) ?_
      simp only [List.set_cons_succ, List.set_cons_zero]
      refine skp (by simp [m4, c2']) ?_
      refine ifT (by simp [m4, c3]) ?_
      refine asc ?_
      refine stp (.int ((c / 4 % 41 - 20) * A)) (by simp (disch := omega) [modP_pos, fdivP_sm, f1, mulP_sm]) ?_
      simp only [List.set_cons_succ, List.set_cons_zero]
      refine asc ?_
      refine stp (.int ((1 + c / 164 % 12) * B)) (by simp (disch := omega) [modP_pos, fdivP_sm, f2, mulP_sm]) ?_
      simp only [List.set_cons_succ, List.set_cons_zero]
      rfl
    · have c3' : (c % 4 == 3) = false := by simpa using c3
      refine run (c / 4 % 41 - 20) (1 + c / 164 % 12) ?_ (by omega) (by omega) (by omega)
      refine (runF_eq (n := 4) (u := D__law_part M)).trans ?_
      show (D__law_part M [.val (.int p), .val (.int c), .un, .un]).res = _
      unfold D__law_part
      refine stp (.int (c / 4 % 41 - 20)) (by simp (disch := omega) [modP_pos, fdivP_sm]) ?_
      simp only [List.set_cons_succ, List.set_cons_zero]
      refine stp (.int (1 + c / 164 % 12)) (by simp (disch := omega) [modP_pos, fdivP_sm]) ?_
      simp only [List.set_cons_succ, List.set_cons_zero]
      refine skp (by simp [m4, c2']) ?_
      exact skp (by simp [m4, c3']) rfl
theorem f_of_two {M : Str → Addr} (k : Int) (k0 : 0 ≤ k) (k4 : k < 4) (x y : T × Nat) : F__law_of_two M [.int k, itV M x, itV M y] = .ok (itV M (.two k.toNat x.1 y.1, x.2 + y.2)) := by
  refine (runF_eq (n := 4) (u := D__law_of_two M)).trans ?_
  show (D__law_of_two M [.val (.int k), .val (itV M x), .val (itV M y), .un]).res = _
  have x0 : ixP (itV M x) (.int 0) = .ok (enc M x.1) := rfl
  have x1 : ixP (itV M x) (.int 1) = .ok (.int x.2) := rfl
  have x2 : ixP (itV M x) (.int 2) = .ok (.int (depT x.1)) := rfl
  have y0 : ixP (itV M y) (.int 0) = .ok (enc M y.1) := rfl
  have y1 : ixP (itV M y) (.int 1) = .ok (.int y.2) := rfl
  have y2 : ixP (itV M y) (.int 2) = .ok (.int (depT y.1)) := rfl
  have mk : ∀ nm : Str, eMk (M nm) ["one", "other"] (aCons (e2 ixP (eVo 1) (eC (.int 0))) (aCons (e2 ixP (eVo 2) (eC (.int 0))) aNil)) [.val (.int k), .val (itV M x), .val (itV M y), .un] = .ok (.obj (M nm) ["one", "other"] [enc M x.1, enc M y.1]) := fun nm => by
    unfold eMk
    simp [x0, y0]
  have l3 : ∀ a b c : PV, lstP [a, b, c] = .ok (.lst [a, b, c]) := fun _ _ _ => rfl
  have fin : ∀ m : PV, (bSeq (sRet (eD lstP (aCons (eV 3) (aCons (e2 addP (e2 ixP (eVo 1) (eC (.int 1))) (e2 ixP (eVo 2) (eC (.int 1)))) (aCons (e2 addP (eC (.int 1)) (eD maxP (aCons (e2 ixP (eVo 1) (eC (.int 2))) (aCons (e2 ixP (eVo 2) (eC (.int 2))) aNil)))) aNil))))) bNil [.val (.int k), .val (itV M x), .val (itV M y), .val m]).res = .ok (.lst [m, .int ((x.2 + y.2 : Nat) : Int), .int ((1 + max (depT x.1) (depT y.1) : Nat) : Int)]) := fun m => by
    have e : (1 : Int) + max (depT x.1 : Int) (depT y.1 : Int) = ((1 + max (depT x.1) (depT y.1) : Nat) : Int) := by omega
    simp only [bSeq_eq, sRet_eq, eD_eq, aCons_eq, aNil_eq, eV0, eVs, e2_eq, eVos, eVo0, eC_eq, bind1, x1, x2, y1, y2, addP_ii, maxP_ok, l3, st_ok, then_ret, res_ret, e, Int.natCast_add]
  unfold D__law_of_two
  have kk : k = 0 ∨ k = 1 ∨ k = 2 ∨ k = 3 := by omega
  rcases kk with rfl | rfl | rfl | rfl
  · refine ifT (by simp) ?_
    refine asc (stp _ (mk "Sum") (nil_k ?_))
    simp only [List.set_cons_succ, List.set_cons_zero]
    exact fin _
  · refine ifF (by simp) ?_
    refine asc (ifT (by simp) ?_)
    refine asc (stp _ (mk "Difference") (nil_k ?_))
    simp only [List.set_cons_succ, List.set_cons_zero]
    exact fin _
  · refine ifF (by simp) ?_
    refine asc (ifF (by simp) ?_)
    refine asc (ifT (by simp) ?_)
    refine asc (stp _ (mk "Product") (nil_k ?_))
    simp only [List.set_cons_succ, List.set_cons_zero]
    exact fin _
  · refine ifF (by simp) ?_
    refine asc (ifF (by simp) ?_)
    refine asc (ifF (by simp) ?_)
    refine asc (stp _ (mk "Quotient") (nil_k ?_))
    simp only [List.set_cons_succ, List.set_cons_zero]
    exact fin _
def stV (M : Str → Addr) (L : List (T × Nat)) : List PV := L.map (itV M)
theorem stV_app (M : Str → Addr) (A B : List (T × Nat)) : stV M (A ++ B) = stV M A ++ stV M B := List.map_append
theorem ix_1 (A : List PV) (z : PV) : ixP (.lst (A ++ [z])) (.int (-1)) = .ok z := ixP_neg (k := 1) (by omega) (by simp) (by
  rw [List.length_append, List.length_singleton, show A.length + 1 - 1 = A.length by omega, List.getElem?_append_right (Nat.le_refl _)]; simp)
theorem ix_2 (A : List PV) (y z : PV) : ixP (.lst (A ++ [y, z])) (.int (-2)) = .ok y := ixP_neg (k := 2) (by omega) (by simp) (by
  rw [List.length_append, show A.length + [y, z].length - 2 = A.length by simp, List.getElem?_append_right (Nat.le_refl _)]; simp)
theorem cut_1 (A : List PV) (z : PV) : cutG (A ++ [z]) none (some (-1)) = A := by
  unfold cutG
  have e : HT.sIx (A ++ [z]).length (A ++ [z]).length (some (-1)) = A.length := by
    unfold HT.sIx; dsimp only; rw [if_pos (by omega)]; simp; omega
  rw [e, sIx_none, List.drop_zero, Nat.sub_zero, List.take_left']
  rfl
theorem cut_2 (A : List PV) (y z : PV) : cutG (A ++ [y, z]) none (some (-2)) = A := by
  unfold cutG
  have e : HT.sIx (A ++ [y, z]).length (A ++ [y, z]).length (some (-2)) = A.length := by
    unfold HT.sIx; dsimp only; rw [if_pos (by omega)]; simp; omega
  rw [e, sIx_none, List.drop_zero, Nat.sub_zero, List.take_left']
  rfl
theorem it0 (M : Str → Addr) (x : T × Nat) : ixP (itV M x) (.int 0) = .ok (enc M x.1) := rfl
theorem it1 (M : Str → Addr) (x : T × Nat) : ixP (itV M x) (.int 1) = .ok (.int x.2) := rfl
theorem it2 (M : Str → Addr) (x : T × Nat) : ixP (itV M x) (.int 2) = .ok (.int (depT x.1)) := rfl
theorem f_room2 (M : Str → Addr) (A : List PV) (y z : T × Nat) (k n : Int) (hk : k < 4) : F__law_room [.lst (A ++ [itV M y, itV M z]), .int k, .int n] = .ok (.bl (decide (y.2 + z.2 ≤ 10) && decide (max (depT y.1) (depT z.1) < 6))) := by
  refine (runF_eq (n := 3) (u := D__law_room)).trans ?_
  obtain ⟨V, hV⟩ : ∃ V, V = PV.lst (A ++ [itV M y, itV M z]) := ⟨_, rfl⟩
  have l : lenP [V] = .ok (.int (A.length + 2 : Nat)) := by rw [hV]; simp
  have i1 : ixP V (.int (-1)) = .ok (itV M z) := by
    rw [hV, show A ++ [itV M y, itV M z] = (A ++ [itV M y]) ++ [itV M z] by simp]; exact ix_1 _ _
  have i2 : ixP V (.int (-2)) = .ok (itV M y) := by rw [hV]; exact ix_2 _ _ _
  rw [← hV]
  show (D__law_room [.val V, .val (.int k), .val (.int n)]).res = _
  have e1 : decide ((y.2 : Int) + (z.2 : Int) ≤ 10) = decide (y.2 + z.2 ≤ 10) := by rw [decide_eq_decide]; omega
  have e2' : decide (max (depT y.1 : Int) (depT z.1 : Int) < 6) = decide (max (depT y.1) (depT z.1) < 6) := by rw [decide_eq_decide]; omega
  have n1 : negP (.int 1) = .ok (.int (-1)) := rfl
  have n2 : negP (.int 2) = .ok (.int (-2)) := rfl
  have lt : decide ((1 : Int) < ((A.length + 2 : Nat) : Int)) = true := decide_eq_true (by omega)
  unfold D__law_room
  refine ifT (by simp only [tAn_eq, tB1_eq, e2_eq, eD_eq, aCons_eq, aNil_eq, eVos, eVo0, eC_eq, bind1, ltP_ii, gtP_ii, decide_eq_true hk, asB_eq, if_true, l, lt]) ?_
  simp only [bSeq_eq, sRet_eq, eAn_eq, e2_eq, e1_eq, eD_eq, aCons_eq, aNil_eq, eVos, eVo0, eC_eq, bind1, n1, n2, i1, i2, it1, it2, addP_ii, leP_ii, maxP_ok, ltP_ii, asB_eq, e1, e2']
  cases decide (y.2 + z.2 ≤ 10) <;> rfl
theorem f_roomP (M : Str → Addr) (A : List PV) (z : T × Nat) (n : Int) (hn : 0 ≤ n ∧ n ≤ 100) (hz : z.2 ≤ 10) : F__law_room [.lst (A ++ [itV M z]), .int 4, .int n] = .ok (.bl (decide (n * z.2 ≤ 10) && decide (depT z.1 < 6))) := by
  refine (runF_eq (n := 3) (u := D__law_room)).trans ?_
  obtain ⟨V, hV⟩ : ∃ V, V = PV.lst (A ++ [itV M z]) := ⟨_, rfl⟩
  have i1 : ixP V (.int (-1)) = .ok (itV M z) := by rw [hV]; exact ix_1 _ _
  rw [← hV]
  show (D__law_room [.val V, .val (.int 4), .val (.int n)]).res = _
  have e2' : decide ((depT z.1 : Int) < 6) = decide (depT z.1 < 6) := by rw [decide_eq_decide]; omega
  have n1 : negP (.int 1) = .ok (.int (-1)) := rfl
  have mm : mulP (.int n) (.int z.2) = .ok (.int (n * z.2)) := mulP_sm (by omega) (by omega) (by omega) (by omega)
  unfold D__law_room
  refine skp (by simp only [tAn_eq, tB1_eq, e2_eq, eVos, eVo0, eC_eq, bind1, ltP_ii, asB_eq]; rfl) ?_
  have ne : neP (.int 4) (.int 4) = .ok (.bl false) := by simp
  simp only [bSeq_eq, sRet_eq, eOr_eq, eAn_eq, e2_eq, e1_eq, eD_eq, aCons_eq, aNil_eq, eVos, eVo0, eC_eq, bind1, n1, i1, it1, it2, mm, leP_ii, ltP_ii, asB_eq, ne, e2', if_neg Bool.false_ne_true]
  cases decide (n * z.2 ≤ 10) <;> rfl
theorem f_roomA (L : List PV) (k n : Int) (hk : k ≠ 4) (h : ¬ (k < 4 ∧ 1 < L.length)) : F__law_room [.lst L, .int k, .int n] = .ok (.bl true) := by
  refine (runF_eq (n := 3) (u := D__law_room)).trans ?_
  show (D__law_room [.val (.lst L), .val (.int k), .val (.int n)]).res = _
  have ne : neP (.int k) (.int 4) = .ok (.bl true) := by simp [hk]
  unfold D__law_room
  refine skp ?_ ?_
  · simp only [tAn_eq, tB1_eq, e2_eq, eD_eq, aCons_eq, aNil_eq, eVos, eVo0, eC_eq, bind1, ltP_ii, gtP_ii, asB_eq, lenP_l]
    by_cases z : k < 4
    · rw [decide_eq_true z, if_pos rfl, decide_eq_false (by omega)]
    · rw [decide_eq_false z]; rfl
  · simp only [bSeq_eq, sRet_eq, eOr_eq, e2_eq, eVos, eVo0, eC_eq, bind1, ne, asB_eq]
    rfl
theorem lend2 {t : Rho → R Bool} {a b d e f : Slot} {ps : List PV} : tLend 2 t [a, b, .own ps, d, e, f] = t [a, b, .val (.lst ps), d, e, f] := rfl
theorem step {M : Str → Addr} (p c : Int) (hp : p ∈ primesL) (Cs : PV) (L : List (T × Nat)) (hne : L ≠ []) (hL : ∀ x ∈ L, It x) (hl : L.length ≤ 1000) (s4 s5 : Slot) :
    ∃ L' s4' s5', (bSeq (sSet 4 (e2 modP (eVo 3) (eC (.int 7)))) (bSeq (sSet 5 (e2 addP (eC (.int 1)) (e2 modP (e2 fdivP (eVo 3) (eC (.int 7))) (eC (.int 9))))) (bSeq (sIf (tLend 2 (tB1 (eD F__law_room (aCons (eV 2) (aCons (eV 4) (aCons (eV 5) aNil)))))) (bSeq (sIf (tAn (tB1 (e2 ltP (eVo 4) (eC (.int 4)))) (tB1 (e2 gtP (eD lenP (aCons (eVo 2) aNil)) (eC (.int 1))))) (bSeq (sSetO 2 (e2 addL (eSl slP (eVo 2) oNone (oSome (e1 negP (eC (.int 2))))) (eD lstP (aCons (eD (F__law_of_two M) (aCons (eV 4) (aCons (e2 ixP (eVo 2) (e1 negP (eC (.int 2)))) (aCons (e2 ixP (eVo 2) (e1 negP (eC (.int 1)))) aNil)))) aNil)))) bNil) (bSeq (sIf (tB1 (e2 eqP (eVo 4) (eC (.int 4)))) (bSeq (sSetO 2 (e2 addL (eSl slP (eVo 2) oNone (oSome (e1 negP (eC (.int 1))))) (eD lstP (aCons (eD lstP (aCons (eMk (M "Power") ["one", "n"] (aCons (e2 ixP (e2 ixP (eVo 2) (e1 negP (eC (.int 1)))) (eC (.int 0))) (aCons (eV 5) aNil))) (aCons (e2 mulP (eVo 5) (e2 ixP (e2 ixP (eVo 2) (e1 negP (eC (.int 1)))) (eC (.int 1)))) (aCons (e2 addP (eC (.int 1)) (e2 ixP (e2 ixP (eVo 2) (e1 negP (eC (.int 1)))) (eC (.int 2)))) aNil)))) aNil)))) bNil) (bSeq (sMut 2 appP (eD (F__law_part M) (aCons (eV 0) (aCons (e2 fdivP (eVo 3) (eC (.int 7))) aNil)))) bNil)) bNil)) bNil) bNil) bNil))) [.val (.int p), .val Cs, .own (stV M L), .val (.int c), s4, s5] = .next [.val (.int p), .val Cs, .own (stV M L'), .val (.int c), s4', s5'] ∧ L' ≠ [] ∧ (∀ x ∈ L', It x) ∧ L'.length ≤ L.length + 1 := by
  have m7 := modP_pos (a := c) (b := 7) (by omega)
  have d7 := fdivP_sm (a := c) (b := 7) (by omega) (by omega)
  have m9 := modP_pos (a := c / 7) (b := 9) (by omega)
  obtain ⟨k, hk⟩ : ∃ k, k = c % 7 := ⟨_, rfl⟩
  obtain ⟨n, hn⟩ : ∃ n, n = 1 + c / 7 % 9 := ⟨_, rfl⟩
  have k0 : 0 ≤ k ∧ k < 7 := by omega
  have n0 : 1 ≤ n ∧ n ≤ 9 := by omega
  have fin : ∀ {o : Out} {L' : List (T × Nat)}, (bSeq (sIf (tLend 2 (tB1 (eD F__law_room (aCons (eV 2) (aCons (eV 4) (aCons (eV 5) aNil)))))) (bSeq (sIf (tAn (tB1 (e2 ltP (eVo 4) (eC (.int 4)))) (tB1 (e2 gtP (eD lenP (aCons (eVo 2) aNil)) (eC (.int 1))))) (bSeq (sSetO 2 (e2 addL (eSl slP (eVo 2) oNone (oSome (e1 negP (eC (.int 2))))) (eD lstP (aCons (eD (F__law_of_two M) (aCons (eV 4) (aCons (e2 ixP (eVo 2) (e1 negP (eC (.int 2)))) (aCons (e2 ixP (eVo 2) (e1 negP (eC (.int 1)))) aNil)))) aNil)))) bNil) (bSeq (sIf (tB1 (e2 eqP (eVo 4) (eC (.int 4)))) (bSeq (sSetO 2 (e2 addL (eSl slP (eVo 2) oNone (oSome (e1 negP (eC (.int 1))))) (eD lstP (aCons (eD lstP (aCons (eMk (M "Power") ["one", "n"] (aCons (e2 ixP (e2 ixP (eVo 2) (e1 negP (eC (.int 1)))) (eC (.int 0))) (aCons (eV 5) aNil))) (aCons (e2 mulP (eVo 5) (e2 ixP (e2 ixP (eVo 2) (e1 negP (eC (.int 1)))) (eC (.int 1)))) (aCons (e2 addP (eC (.int 1)) (e2 ixP (e2 ixP (eVo 2) (e1 negP (eC (.int 1)))) (eC (.int 2)))) aNil)))) aNil)))) bNil) (bSeq (sMut 2 appP (eD (F__law_part M) (aCons (eV 0) (aCons (e2 fdivP (eVo 3) (eC (.int 7))) aNil)))) bNil)) bNil)) bNil) bNil) bNil) [.val (.int p), .val Cs, .own (stV M L), .val (.int c), .val (.int k), .val (.int n)] = .next [.val (.int p), .val Cs, .own (stV M L'), .val (.int c), .val (.int k), .val (.int n)] → L' ≠ [] → (∀ x ∈ L', It x) → L'.length ≤ L.length + 1 →
      ∃ L' s4' s5', (bSeq (sSet 4 (e2 modP (eVo 3) (eC (.int 7)))) (bSeq (sSet 5 (e2 addP (eC (.int 1)) (e2 modP (e2 fdivP (eVo 3) (eC (.int 7))) (eC (.int 9))))) (bSeq (sIf (tLend 2 (tB1 (eD F__law_room (aCons (eV 2) (aCons (eV 4) (aCons (eV 5) aNil)))))) (bSeq (sIf (tAn (tB1 (e2 ltP (eVo 4) (eC (.int 4)))) (tB1 (e2 gtP (eD lenP (aCons (eVo 2) aNil)) (eC (.int 1))))) (bSeq (sSetO 2 (e2 addL (eSl slP (eVo 2) oNone (oSome (e1 negP (eC (.int 2))))) (eD lstP (aCons (eD (F__law_of_two M) (aCons (eV 4) (aCons (e2 ixP (eVo 2) (e1 negP (eC (.int 2)))) (aCons (e2 ixP (eVo 2) (e1 negP (eC (.int 1)))) aNil)))) aNil)))) bNil) (bSeq (sIf (tB1 (e2 eqP (eVo 4) (eC (.int 4)))) (bSeq (sSetO 2 (e2 addL (eSl slP (eVo 2) oNone (oSome (e1 negP (eC (.int 1))))) (eD lstP (aCons (eD lstP (aCons (eMk (M "Power") ["one", "n"] (aCons (e2 ixP (e2 ixP (eVo 2) (e1 negP (eC (.int 1)))) (eC (.int 0))) (aCons (eV 5) aNil))) (aCons (e2 mulP (eVo 5) (e2 ixP (e2 ixP (eVo 2) (e1 negP (eC (.int 1)))) (eC (.int 1)))) (aCons (e2 addP (eC (.int 1)) (e2 ixP (e2 ixP (eVo 2) (e1 negP (eC (.int 1)))) (eC (.int 2)))) aNil)))) aNil)))) bNil) (bSeq (sMut 2 appP (eD (F__law_part M) (aCons (eV 0) (aCons (e2 fdivP (eVo 3) (eC (.int 7))) aNil)))) bNil)) bNil)) bNil) bNil) bNil))) [.val (.int p), .val Cs, .own (stV M L), .val (.int c), s4, s5] = .next [.val (.int p), .val Cs, .own (stV M L'), .val (.int c), s4', s5'] ∧ L' ≠ [] ∧ (∀ x ∈ L', It x) ∧ L'.length ≤ L.length + 1 := fun {o L'} h q1 q2 q3 => by
    refine ⟨L', .val (.int k), .val (.int n), ?_, q1, q2, q3⟩
    refine sqT (.int k) (by simp only [e2_eq, eVos, eVo0, eC_eq, bind1, m7, hk]) ?_
    simp only [List.set_cons_succ, List.set_cons_zero]
    refine sqT (.int n) (by simp only [e2_eq, eVos, eVo0, eC_eq, bind1, d7, m9, addP_ii, hn]) ?_
    simp only [List.set_cons_succ, List.set_cons_zero]
    exact h
  have n1 : negP (.int 1) = .ok (.int (-1)) := rfl
  have n2 : negP (.int 2) = .ok (.int (-2)) := rfl
  have ap : ∀ (A : List PV) (q : PV), A.length ≤ 1000 → addL (.lst A) (.lst [q]) = .ok (.lst (A ++ [q])) := fun A q h => addL_ok (by simp; omega)
  have l1 : ∀ q : PV, lstP [q] = .ok (.lst [q]) := fun _ => rfl
  have l3 : ∀ a b c : PV, lstP [a, b, c] = .ok (.lst [a, b, c]) := fun _ _ _ => rfl
  by_cases c1 : k < 4 ∧ 1 < L.length
  · -- two are joined
    obtain ⟨A, y, z, rfl⟩ : ∃ A y z, L = A ++ [y, z] := by
      refine ⟨L.take (L.length - 2), L[L.length - 2]'(by omega), L[L.length - 1]'(by omega), ?_⟩
      refine (List.take_append_drop (L.length - 2) L).symm.trans ?_
      congr 1
      · rw [List.drop_eq_getElem_cons (by omega), show L.length - 2 + 1 = L.length - 1 by omega, List.drop_eq_getElem_cons (by omega), show L.length - 1 + 1 = L.length by omega, List.drop_length]
    have hy := hL y (by simp)
    have hz := hL z (by simp)
    rw [List.length_append] at hl
    obtain ⟨V, hV⟩ : ∃ V, V = stV M (A ++ [y, z]) := ⟨_, rfl⟩
    have eV' : V = stV M A ++ [itV M y, itV M z] := by rw [hV, stV_app]; rfl
    have R := f_room2 M (stV M A) y z k n c1.1
    rw [← eV'] at R
    have lA : (stV M A).length = A.length := by unfold stV; rw [List.length_map]
    have i1 : ixP (.lst V) (.int (-1)) = .ok (itV M z) := by
      rw [eV', show stV M A ++ [itV M y, itV M z] = (stV M A ++ [itV M y]) ++ [itV M z] by simp]; exact ix_1 _ _
    have i2 : ixP (.lst V) (.int (-2)) = .ok (itV M y) := by rw [eV']; exact ix_2 _ _ _
    have cu : cutG V none (some (-2)) = stV M A := by rw [eV']; exact cut_2 _ _ _
    have tw := f_of_two (M := M) k k0.1 c1.1 y z
    have ln : decide ((1 : Int) < (V.length : Int)) = true := decide_eq_true (by rw [eV']; simp; omega)
    by_cases r : (decide (y.2 + z.2 ≤ 10) && decide (max (depT y.1) (depT z.1) < 6)) = true
    · rw [r] at R
      rw [Bool.and_eq_true, decide_eq_true_eq, decide_eq_true_eq] at r
      refine fin (o := .stuck) (L' := A ++ [(.two k.toNat y.1 z.1, y.2 + z.2)]) ?_ (by simp) ?_ (by simp)
      · rw [← hV, stV_app, show stV M [(T.two k.toNat y.1 z.1, y.2 + z.2)] = [itV M (.two k.toNat y.1 z.1, y.2 + z.2)] from rfl]
        have apA := ap (stV M A) (itV M (.two k.toNat y.1 z.1, y.2 + z.2)) (by omega)
        simp only [bSeq_eq, sIf_eq, lend2, tB1_eq, eD_eq, aCons_eq, aNil_eq, eV0, eVs, eVos, eVo0, eVo0', bind1, R, asB_eq, stB_ok, if_true, tAn_eq, e2_eq, eC_eq, ltP_ii, decide_eq_true c1.1, lenP_l, gtP_ii, ln, sSetO_eq, eSl_eq, oNone_eq, oSome_eq, e1_eq, n1, n2, asI_eq, slP_l, cu, i1, i2, tw, l1, apA, st_ok, asL_l, own_ok, List.set_cons_succ, List.set_cons_zero, then_next, bNil_eq]
      · intro x hx
        rcases List.mem_append.mp hx with h | h
        · exact hL x (List.mem_append_left _ h)
        · rw [List.mem_singleton.mp h]
          refine ⟨⟨hy.wf, hz.wf⟩, by have := hy.w1; show 1 ≤ y.2 + z.2; omega, r.1, ?_, ?_⟩
          · show 1 + max (depT y.1) (depT z.1) ≤ 6; omega
          · have b1 := hy.bits
            have b2 := hz.bits
            show bitsT 67 y.1 + bitsT 67 z.1 + 1 + 1 ≤ 68 * (y.2 + z.2)
            omega
    · rw [Bool.not_eq_true] at r
      rw [r] at R
      refine fin (o := .stuck) (L' := A ++ [y, z]) ?_ (by simp) hL (by simp)
      rw [← hV]
      simp only [bSeq_eq, sIf_eq, lend2, tB1_eq, eD_eq, aCons_eq, aNil_eq, eV0, eVs, bind1, R, asB_eq, stB_ok, if_neg Bool.false_ne_true, then_next, bNil_eq]
  · by_cases c2 : k = 4
    · -- a power
      subst c2
      obtain ⟨A, z, rfl⟩ : ∃ A z, L = A ++ [z] := ⟨L.dropLast, L.getLast hne, (List.dropLast_concat_getLast hne).symm⟩
      have hz := hL z (by simp)
      rw [List.length_append] at hl
      obtain ⟨V, hV⟩ : ∃ V, V = stV M (A ++ [z]) := ⟨_, rfl⟩
      have eV' : V = stV M A ++ [itV M z] := by rw [hV, stV_app]; rfl
      have R := f_roomP M (stV M A) z n (by omega) hz.w10
      rw [← eV'] at R
      have lA : (stV M A).length = A.length := by unfold stV; rw [List.length_map]
      have i1 : ixP (.lst V) (.int (-1)) = .ok (itV M z) := by rw [eV']; exact ix_1 _ _
      have cu : cutG V none (some (-1)) = stV M A := by rw [eV']; exact cut_1 _ _
      obtain ⟨N, rfl⟩ : ∃ N : Nat, n = N := ⟨n.toNat, by omega⟩
      have mm : mulP (.int N) (.int z.2) = .ok (.int (N * z.2)) := mulP_sm (by omega) (by have := hz.w10; omega) (by omega) (by have := hz.w10; omega)
      by_cases r : (decide ((N : Int) * z.2 ≤ 10) && decide (depT z.1 < 6)) = true
      · rw [r] at R
        rw [Bool.and_eq_true, decide_eq_true_eq, decide_eq_true_eq] at r
        refine fin (o := .stuck) (L' := A ++ [(.pow z.1 N, N * z.2)]) ?_ (by simp) ?_ (by simp)
        · have mk : eMk (M "Power") ["one", "n"] (aCons (e2 ixP (e2 ixP (eVo 2) (e1 negP (eC (.int 1)))) (eC (.int 0))) (aCons (eV 5) aNil)) [.val (.int p), .val Cs, .own V, .val (.int c), .val (.int 4), .val (.int N)] = .ok (enc M (.pow z.1 N)) := by
            unfold eMk
            simp only [aCons_eq, aNil_eq, e2_eq, e1_eq, eVos, eVo0, eVo0', eC_eq, bind1, n1, i1, it0, eVs, eV0]
            rfl
          rw [← hV, stV_app, show stV M [(T.pow z.1 N, N * z.2)] = [.lst [enc M (.pow z.1 N), .int ((N * z.2 : Nat) : Int), .int ((1 + depT z.1 : Nat) : Int)]] from rfl]
          have apA := ap (stV M A) (.lst [enc M (.pow z.1 N), .int ((N * z.2 : Nat) : Int), .int ((1 + depT z.1 : Nat) : Int)]) (by omega)
          have e1 : (1 : Int) + (depT z.1 : Int) = ((1 + depT z.1 : Nat) : Int) := by omega
          have e2' : (N : Int) * (z.2 : Int) = ((N * z.2 : Nat) : Int) := by rw [Int.natCast_mul]
          have q4 : decide ((4 : Int) < 4) = false := rfl
          have q5 : ((4 : Int) == 4) = true := rfl
          simp only [bSeq_eq, sIf_eq, lend2, tB1_eq, eD_eq, aCons_eq, aNil_eq, eV0, eVs, eVos, eVo0, eVo0', bind1, R, asB_eq, stB_ok, if_true, tAn_eq, e2_eq, eC_eq, ltP_ii, q4, if_neg Bool.false_ne_true, eqP_ii, q5, sSetO_eq, eSl_eq, oNone_eq, oSome_eq, e1_eq, n1, asI_eq, slP_l, cu, i1, it1, it2, mk, mm, addP_ii, l1, l3, e1, e2', apA, st_ok, asL_l, own_ok, List.set_cons_succ, List.set_cons_zero, then_next, bNil_eq]
        · intro x hx
          rcases List.mem_append.mp hx with h | h
          · exact hL x (List.mem_append_left _ h)
          · rw [List.mem_singleton.mp h]
            have b1 := hz.bits
            have w1 := hz.w1
            have e3 : N * bitsT 67 z.1 + N ≤ 68 * (N * z.2) := by
              have := Nat.mul_le_mul_left N b1
              grind
            have e4 : N * z.2 ≤ 10 := by
              have : ((N * z.2 : Nat) : Int) ≤ 10 := by rw [Int.natCast_mul]; exact r.1
              omega
            refine ⟨⟨hz.wf, by omega, by omega⟩, Nat.mul_pos (by omega) w1, e4, ?_, ?_⟩
            · show 1 + depT z.1 ≤ 6; omega
            · show N * bitsT 67 z.1 + 1 ≤ 68 * (N * z.2)
              omega
      · rw [Bool.not_eq_true] at r
        rw [r] at R
        refine fin (o := .stuck) (L' := A ++ [z]) ?_ (by simp) hL (by simp)
        rw [← hV]
        simp only [bSeq_eq, sIf_eq, lend2, tB1_eq, eD_eq, aCons_eq, aNil_eq, eV0, eVs, bind1, R, asB_eq, stB_ok, if_neg Bool.false_ne_true, then_next, bNil_eq]
    · -- one more part
      obtain ⟨x, px, hx⟩ := f_part (M := M) p (c / 7) hp
      have lV : (stV M L).length = L.length := by unfold stV; rw [List.length_map]
      have R := f_roomA (stV M L) k n c2 (by rw [lV]; exact c1)
      have k4 : (k == 4) = false := by rw [beq_eq_false_iff_ne]; exact c2
      refine fin (o := .stuck) (L' := L ++ [x]) ?_ (by simp) ?_ (by simp)
      · obtain ⟨V, hV⟩ : ∃ V, V = stV M L := ⟨_, rfl⟩
        rw [stV_app, show stV M [x] = [itV M x] from rfl]
        rw [← hV] at R lV ⊢
        have ap2 := appP_ok (l := V) (p := itV M x) (by omega)
        have tt : (tAn (tB1 (e2 ltP (eVo 4) (eC (.int 4)))) (tB1 (e2 gtP (eD lenP (aCons (eVo 2) aNil)) (eC (.int 1))))) [.val (.int p), .val Cs, .own V, .val (.int c), .val (.int k), .val (.int n)] = .ok false := by
          simp only [tAn_eq, tB1_eq, e2_eq, eD_eq, aCons_eq, aNil_eq, eVos, eVo0, eVo0', eC_eq, bind1, ltP_ii, asB_eq, lenP_l, gtP_ii]
          by_cases z : k < 4
          · rw [decide_eq_true z, if_pos rfl, decide_eq_false (by omega)]
          · rw [decide_eq_false z]; rfl
        simp only [bSeq_eq, sIf_eq, lend2, tt, tB1_eq, eD_eq, aCons_eq, aNil_eq, eV0, eVs, eVos, eVo0, eVo0', bind1, R, asB_eq, stB_ok, if_true, e2_eq, eC_eq, if_neg Bool.false_ne_true, eqP_ii, k4, d7, px, sMut_eq, getOwn0, getOwnS, onOwn_some, ap2, st_ok, own_ok, List.set_cons_succ, List.set_cons_zero, then_next, bNil_eq]
      · intro y hy
        rcases List.mem_append.mp hy with h | h
        · exact hL y h
        · rw [List.mem_singleton.mp h]; exact hx
theorem loop {M : Str → Addr} (p : Int) (hp : p ∈ primesL) (Cs : PV) : ∀ (cs : List Int) (L : List (T × Nat)) (s3 s4 s5 : Slot), L ≠ [] → (∀ x ∈ L, It x) → L.length + cs.length ≤ 1000 →
    ∃ L' s3' s4' s5', forL (gN 3) (bSeq (sSet 4 (e2 modP (eVo 3) (eC (.int 7)))) (bSeq (sSet 5 (e2 addP (eC (.int 1)) (e2 modP (e2 fdivP (eVo 3) (eC (.int 7))) (eC (.int 9))))) (bSeq (sIf (tLend 2 (tB1 (eD F__law_room (aCons (eV 2) (aCons (eV 4) (aCons (eV 5) aNil)))))) (bSeq (sIf (tAn (tB1 (e2 ltP (eVo 4) (eC (.int 4)))) (tB1 (e2 gtP (eD lenP (aCons (eVo 2) aNil)) (eC (.int 1))))) (bSeq (sSetO 2 (e2 addL (eSl slP (eVo 2) oNone (oSome (e1 negP (eC (.int 2))))) (eD lstP (aCons (eD (F__law_of_two M) (aCons (eV 4) (aCons (e2 ixP (eVo 2) (e1 negP (eC (.int 2)))) (aCons (e2 ixP (eVo 2) (e1 negP (eC (.int 1)))) aNil)))) aNil)))) bNil) (bSeq (sIf (tB1 (e2 eqP (eVo 4) (eC (.int 4)))) (bSeq (sSetO 2 (e2 addL (eSl slP (eVo 2) oNone (oSome (e1 negP (eC (.int 1))))) (eD lstP (aCons (eD lstP (aCons (eMk (M "Power") ["one", "n"] (aCons (e2 ixP (e2 ixP (eVo 2) (e1 negP (eC (.int 1)))) (eC (.int 0))) (aCons (eV 5) aNil))) (aCons (e2 mulP (eVo 5) (e2 ixP (e2 ixP (eVo 2) (e1 negP (eC (.int 1)))) (eC (.int 1)))) (aCons (e2 addP (eC (.int 1)) (e2 ixP (e2 ixP (eVo 2) (e1 negP (eC (.int 1)))) (eC (.int 2)))) aNil)))) aNil)))) bNil) (bSeq (sMut 2 appP (eD (F__law_part M) (aCons (eV 0) (aCons (e2 fdivP (eVo 3) (eC (.int 7))) aNil)))) bNil)) bNil)) bNil) bNil) bNil))) (cs.map PV.int) [.val (.int p), .val Cs, .own (stV M L), s3, s4, s5] = .next [.val (.int p), .val Cs, .own (stV M L'), s3', s4', s5'] ∧ L' ≠ [] ∧ (∀ x ∈ L', It x)
  | [], L, s3, s4, s5, h1, h2, _ => ⟨L, s3, s4, s5, rfl, h1, h2⟩
  | c :: cs, L, s3, s4, s5, h1, h2, h3 => by
    rw [List.length_cons] at h3
    obtain ⟨L1, t4, t5, q1, q2, q3, q4⟩ := step (M := M) p c hp Cs L h1 h2 (by omega) s4 s5
    obtain ⟨L', s3', s4', s5', i1, i2, i3⟩ := loop p hp Cs cs L1 (.val (.int c)) t4 t5 q2 q3 (by omega)
    refine ⟨L', s3', s4', s5', ?_, i2, i3⟩
    rw [List.map_cons, forL_cons, gN_eq, onR_some]
    simp only [List.set_cons_succ, List.set_cons_zero]
    rw [q1]
    exact i1
theorem f_term {M : Str → Addr} (p : Int) (hp : p ∈ primesL) (cs : List Int) (hc : cs.length ≤ 100) : ∃ x, F__law_term M [.int p, .lst (cs.map PV.int)] = .ok (enc M x.1) ∧ It x := by
  obtain ⟨x, px, hx⟩ := f_part (M := M) p (cs.take 1).sum hp
  obtain ⟨Cs, hCs⟩ : ∃ Cs, Cs = PV.lst (cs.map PV.int) := ⟨_, rfl⟩
  have sl1 : slP Cs none (some 1) = .ok (.lst ((cs.take 1).map PV.int)) := by rw [hCs, slP_l, cut_take _ _ (by omega), ← List.map_take]; rfl
  have sl2 : slP Cs (some 1) none = .ok (.lst ((cs.drop 1).map PV.int)) := by rw [hCs, slP_l, cut_drop _ _ (by omega), ← List.map_drop]; rfl
  obtain ⟨L', s3', s4', s5', i1, i2, i3⟩ := loop (M := M) p hp Cs (cs.drop 1) [x] .un .un .un (by simp) (by intro y hy; rw [List.mem_singleton.mp hy]; exact hx) (by simp; omega)
  obtain ⟨A, z, rfl⟩ : ∃ A z, L' = A ++ [z] := ⟨L'.dropLast, L'.getLast i2, (List.dropLast_concat_getLast i2).symm⟩
  refine ⟨z, ?_, i3 z (by simp)⟩
  rw [← hCs]
  refine (runF_eq (n := 6) (u := D__law_term M)).trans ?_
  show (D__law_term M [.val (.int p), .val Cs, .un, .un, .un, .un]).res = _
  have l1 : ∀ q : PV, lstP [q] = .ok (.lst [q]) := fun _ => rfl
  have n1 : negP (.int 1) = .ok (.int (-1)) := rfl
  unfold D__law_term
  refine stpN (ρ' := [.val (.int p), .val Cs, .own (stV M [x]), .un, .un, .un]) (by simp only [sSetO_eq, eD_eq, aCons_eq, aNil_eq, eV0, eVs, eSl_eq, oNone_eq, oSome_eq, eC_eq, asI_eq, eVos, eVo0, bind1, sl1, sumPL_ok, px, l1, st_ok, asL_l, own_ok, List.set_cons_succ, List.set_cons_zero]; rfl) ?_
  refine stpFor ((cs.drop 1).map PV.int) _ (by simp only [iS_eq, eSl_eq, oNone_eq, oSome_eq, eC_eq, asI_eq, eVos, eVo0, bind1, sl2, asS_l]) i1 ?_
  have ix := ix_1 (stV M A) (itV M z)
  rw [stV_app, show stV M [z] = [itV M z] from rfl]
  simp only [bSeq_eq, sRet_eq, e2_eq, e1_eq, eC_eq, eVos, eVo0, eVo0', bind1, n1, ix, it0, st_ok, then_ret, res_ret]
theorem small_loop {M : Str → Addr} (p : Int) (hp : 2 ≤ p ∧ p < 127) (t : PV) : ∀ (items : List PV) (a : Int) (s3 : Slot), 1 ≤ a → a < 100000000000000000000 →
    ∃ a' s3', forL (gN 3) (bSeq (sIf (tB1 (e2 ltP (e2 mulP (eVo 2) (eVo 0)) (e2 powP (eC (.int 10)) (eC (.int 20))))) (bSeq (sSet 2 (e2 mulP (eVo 2) (eVo 0))) bNil) bNil) bNil) items [.val (.int p), .val t, .val (.int a), s3] = .next [.val (.int p), .val t, .val (.int a'), s3'] ∧ 1 ≤ a' ∧ a' < 100000000000000000000
  | [], a, s3, h1, h2 => ⟨a, s3, rfl, h1, h2⟩
  | q :: items, a, s3, h1, h2 => by
    have mm : mulP (.int a) (.int p) = .ok (.int (a * p)) := mulP_sm (by omega) (by omega) (by omega) (by omega)
    have p20 : powP (.int 10) (.int 20) = .ok (.int 100000000000000000000) := powP_sm (by omega) (by omega) (by omega) (by omega)
    have ap : 1 ≤ a * p := by
      have : 1 * 1 ≤ a * p := Int.mul_le_mul h1 (by omega) (by omega) (by omega)
      omega
    rw [forL_cons, gN_eq, onR_some]
    simp only [List.set_cons_succ, List.set_cons_zero]
    by_cases c : a * p < 100000000000000000000
    · obtain ⟨a', s3', i1, i2⟩ := small_loop (M := M) p hp t items (a * p) (.val q) ap c
      refine ⟨a', s3', ?_, i2⟩
      refine (fo2 (ρ := [.val (.int p), .val t, .val (.int (a * p)), .val q]) ?_).trans i1
      simp [mm, p20, c]
    · obtain ⟨a', s3', i1, i2⟩ := small_loop (M := M) p hp t items a (.val q) h1 h2
      refine ⟨a', s3', ?_, i2⟩
      refine (fo2 (ρ := [.val (.int p), .val t, .val (.int a), .val q]) ?_).trans i1
      simp [mm, p20, c]
theorem f_small {M : Str → Addr} (p n : Int) (hp : 2 ≤ p ∧ p < 127) (hn : 0 ≤ n ∧ n ≤ 100) : ∃ a, F__law_small M [.int p, .int n] = .ok (enc M (.part a 1)) ∧ Wf 67 (.part a 1) := by
  obtain ⟨a, s3, i1, h1, h2⟩ := small_loop (M := M) p hp (.int n) (rngL 0 n.toNat) 1 .un (by omega) (by omega)
  refine ⟨a, ?_, by omega, by simp, by omega, by decide⟩
  refine (runF_eq (n := 4) (u := D__law_small M)).trans ?_
  show (D__law_small M [.val (.int p), .val (.int n), .un, .un]).res = _
  have hr : rng1 [.int n] = .ok (rngL 0 n.toNat) := rng1_sm (by omega) (by omega)
  unfold D__law_small
  refine stp (.int 1) rfl ?_
  simp only [List.set_cons_succ, List.set_cons_zero]
  refine stpFor (rngL 0 n.toNat) _ (by simp only [iR_eq, aCons_eq, aNil_eq, eVos, eVo0, bind1, hr]) i1 ?_
  have mk : eMk (M "Part") ["part"] (aCons (eD tupP (aCons (eV 2) (aCons (eC (.int 1)) aNil))) aNil) [.val (.int p), .val (.int n), .val (.int a), s3] = .ok (enc M (.part a 1)) := by
    unfold eMk
    simp
    rfl
  simp only [bSeq_eq, sRet_eq, mk, st_ok, then_ret, res_ret]
/-- a term that the law can make -/
structure Gt (t : T) : Prop where
  wf : Wf 67 t
  dep : depT t ≤ 13
  bits : bitsT 67 t ≤ 3900
  val : ∀ u, valT t = some u → Low u 1200
theorem It.gt {x : T × Nat} (h : It x) : Gt x.1 := ⟨h.wf, by have := h.dep; omega, by have := h.bits; have := h.w10; omega, fun u hu => (low_val h.wf hu).le (by have := h.bits; have := h.w10; omega)⟩
/-- what is put to and taken away -/
theorem near_val {t s : T} {w : Int × Int} (ht : Wf 67 t) (hs : Wf 67 s) (h : valT (.two 1 (.two 0 t s) t) = some w) : valT s = some w := by
  have e : valT (.two 1 (.two 0 t s) t) = (((valT t).bind fun u => (valT s).bind fun v => opT 0 u v).bind fun x => (valT t).bind fun u => opT 1 x u) := rfl
  rw [e] at h
  cases h1 : valT t with
  | none => rw [h1] at h; cases h
  | some u =>
    cases h2 : valT s with
    | none => rw [h1, h2] at h; cases h
    | some v =>
      rw [h1, h2] at h
      have hu := low_val ht h1
      have hv := low_val hs h2
      have pu := hu.pos
      have pv := hv.pos
      have h' : some (ftop (ftop (u.1 * v.2 + v.1 * u.2) (u.2 * v.2) * u.2 - u.1 * fbot (u.1 * v.2 + v.1 * u.2) (u.2 * v.2)) (fbot (u.1 * v.2 + v.1 * u.2) (u.2 * v.2) * u.2), fbot (ftop (u.1 * v.2 + v.1 * u.2) (u.2 * v.2) * u.2 - u.1 * fbot (u.1 * v.2 + v.1 * u.2) (u.2 * v.2)) (fbot (u.1 * v.2 + v.1 * u.2) (u.2 * v.2) * u.2)) = some w := h
      have nn : u.2 * v.2 ≠ 0 := Int.mul_ne_zero (by omega) (by omega)
      have c := fcross (u.1 * v.2 + v.1 * u.2) (u.2 * v.2)
      have b := fbot_pos (t := u.1 * v.2 + v.1 * u.2) nn
      generalize ftop (u.1 * v.2 + v.1 * u.2) (u.2 * v.2) = A at *
      generalize fbot (u.1 * v.2 + v.1 * u.2) (u.2 * v.2) = B at *
      obtain ⟨q1, q2⟩ := low_uniq (T := A * u.2 - u.1 * B) (B := B * u.2) (t := v.1) (b := v.2) (Int.mul_ne_zero (by omega) (by omega)) (by omega) hv.gcd (by grind)
      rw [q1, q2] at h'
      exact h'
theorem f_near {M : Str → Addr} (p c : Int) (hp : 2 ≤ p ∧ p < 127) {x : T × Nat} (hx : It x) : ∃ t, F__law_near M [.int p, enc M x.1, .int c] = .ok (enc M t) ∧ Gt t := by
  obtain ⟨a, pa, wa⟩ := f_small (M := M) p (c / 4 % 30) hp (by omega)
  obtain ⟨b, pb, wb⟩ := f_small (M := M) p (c / 240 % 60) hp (by omega)
  obtain ⟨s, hs⟩ : ∃ s, s = T.two 2 (.part a 1) (.part b 1) := ⟨_, rfl⟩
  have ws : Wf 67 s := by rw [hs]; exact ⟨wa, wb⟩
  have bs : bitsT 67 s = 135 := by rw [hs]; rfl
  have ds : depT s = 1 := by rw [hs]; rfl
  obtain ⟨d, hd⟩ : ∃ d, d = T.two 1 (.two 0 x.1 s) x.1 := ⟨_, rfl⟩
  have wd : Wf 67 d := by rw [hd]; exact ⟨⟨hx.wf, ws⟩, hx.wf⟩
  have b1 := hx.bits
  have b2 := hx.w10
  have b3 := hx.dep
  have bd : bitsT 67 d ≤ 1600 := by
    rw [hd]
    show bitsT 67 x.1 + bitsT 67 s + 1 + bitsT 67 x.1 + 1 ≤ 1600
    omega
  have dd : depT d ≤ 8 := by
    rw [hd]
    show 1 + max (1 + max (depT x.1) (depT s)) (depT x.1) ≤ 8
    omega
  have vd : ∀ u, valT d = some u → Low u 135 := fun u hu => by
    rw [hd] at hu
    have := low_val ws (near_val hx.wf ws hu)
    rw [bs] at this
    exact this
  have d4 := fdivP_sm (a := c) (b := 4) (by omega) (by omega)
  have m30 := modP_pos (a := c / 4) (b := 30) (by omega)
  have d240 := fdivP_sm (a := c) (b := 240) (by omega) (by omega)
  have m60 := modP_pos (a := c / 240) (b := 60) (by omega)
  have d120 := fdivP_sm (a := c) (b := 120) (by omega) (by omega)
  have m2 := modP_pos (a := c / 120) (b := 2) (by omega)
  have go : ∀ {r}, (D__law_near M [.val (.int p), .val (enc M x.1), .val (.int c), .un, .un]).res = r → F__law_near M [.int p, enc M x.1, .int c] = r := fun h => (runF_eq (n := 5) (u := D__law_near M)).trans h
  obtain ⟨E, hE⟩ : ∃ E, E = enc M x.1 := ⟨_, rfl⟩
  have mk1 : eMk (M "Product") ["one", "other"] (aCons (eD (F__law_small M) (aCons (eV 0) (aCons (e2 modP (e2 fdivP (eVo 2) (eC (.int 4))) (eC (.int 30))) aNil))) (aCons (eD (F__law_small M) (aCons (eV 0) (aCons (e2 modP (e2 fdivP (eVo 2) (eC (.int 240))) (eC (.int 60))) aNil))) aNil)) [.val (.int p), .val E, .val (.int c), .un, .un] = .ok (enc M s) := by
    unfold eMk
    simp only [aCons_eq, aNil_eq, eD_eq, eV0, eVs, e2_eq, eVos, eVo0, eC_eq, bind1, d4, m30, pa, d240, m60, pb]
    rw [hs]; rfl
  have mk2 : eMk (M "Difference") ["one", "other"] (aCons (eMk (M "Sum") ["one", "other"] (aCons (eV 1) (aCons (eV 3) aNil))) (aCons (eV 1) aNil)) [.val (.int p), .val E, .val (.int c), .val (enc M s), .un] = .ok (enc M d) := by
    have i : eMk (M "Sum") ["one", "other"] (aCons (eV 1) (aCons (eV 3) aNil)) [.val (.int p), .val E, .val (.int c), .val (enc M s), .un] = .ok (enc M (.two 0 x.1 s)) := by
      unfold eMk
      simp only [aCons_eq, aNil_eq, eV0, eVs, bind1]
      rw [hE]; rfl
    unfold eMk at i ⊢
    simp only [aCons_eq, aNil_eq, eV0, eVs, bind1] at i ⊢
    rw [i]
    simp only [bind1]
    rw [hd, hE]; rfl
  by_cases q : c / 120 % 2 = 1
  · obtain ⟨g, hg⟩ : ∃ g, g = T.two 3 (.part 1 1) d := ⟨_, rfl⟩
    refine ⟨g, go ?_, ?_, ?_, ?_, ?_⟩
    · have mk3 : eMk (M "Quotient") ["one", "other"] (aCons (eMk (M "Part") ["part"] (aCons (eD tupP (aCons (eC (.int 1)) (aCons (eC (.int 1)) aNil))) aNil)) (aCons (eV 4) aNil)) [.val (.int p), .val E, .val (.int c), .val (enc M s), .val (enc M d)] = .ok (enc M g) := by
        have i : eMk (M "Part") ["part"] (aCons (eD tupP (aCons (eC (.int 1)) (aCons (eC (.int 1)) aNil))) aNil) [.val (.int p), .val E, .val (.int c), .val (enc M s), .val (enc M d)] = .ok (enc M (.part 1 1)) := by
          unfold eMk
          simp only [aCons_eq, aNil_eq, eD_eq, eC_eq, bind1]
          rfl
        unfold eMk at i ⊢
        simp only [aCons_eq, aNil_eq, eD_eq, eC_eq, eV0, eVs, bind1] at i ⊢
        rw [i]
        simp only [bind1]
        rw [hg]; rfl
      rw [← hE]
      unfold D__law_near
      refine stp _ mk1 ?_
      simp only [List.set_cons_succ, List.set_cons_zero]
      refine stp _ mk2 ?_
      simp only [List.set_cons_succ, List.set_cons_zero]
      refine ifT (by simp [d120, m2, q]) ?_
      refine asc (stp _ mk3 (nil_k ?_))
      simp only [List.set_cons_succ, List.set_cons_zero]
      simp only [bSeq_eq, sRet_eq, eVs, eV0, st_ok, then_ret, res_ret]
    · rw [hg]; exact ⟨⟨by omega, by decide, by decide, by decide⟩, wd⟩
    · rw [hg]; show 1 + max 0 (depT d) ≤ 13; omega
    · rw [hg]; show 67 + bitsT 67 d + 1 ≤ 3900; omega
    · intro u hu
      rw [hg] at hu
      have e : valT (.two 3 (.part 1 1) d) = ((valT d).bind fun v => opT 3 (1, 1) v) := rfl
      rw [e] at hu
      cases h : valT d with
      | none => rw [h] at hu; cases hu
      | some v =>
        rw [h] at hu
        exact (low_op (k := 3) (m := 67) (show Low (1, 1) 67 from ⟨by show (1 : Int) ≤ 1; omega, by decide, by decide, by decide⟩) (vd v h) hu).le (by omega)
  · refine ⟨d, go ?_, wd, by omega, by omega, fun u hu => (vd u hu).le (by omega)⟩
    have q' : (c / 120 % 2 == 1) = false := by simpa using q
    rw [← hE]
    unfold D__law_near
    refine stp _ mk1 ?_
    simp only [List.set_cons_succ, List.set_cons_zero]
    refine stp _ mk2 ?_
    simp only [List.set_cons_succ, List.set_cons_zero]
    refine skp (by simp [d120, m2, q']) ?_
    simp only [bSeq_eq, sRet_eq, eVs, eV0, st_ok, then_ret, res_ret]
theorem en_loop {M : Str → Addr} (h : (cs6 M).Nodup) {p pl : Int} (hp : p ∈ primesL) (hpl : -100 ≤ pl ∧ pl ≤ 100) {t : T} (g : Gt t) : ∀ (fs : List Int) (s3 s4 : Slot), (∀ f ∈ fs, 0 ≤ f ∧ f ≤ 300) →
    ∃ o, forL (gN 3) (bSeq (sSet 4 (eC (.bl false))) (bSeq (sTryO "NoQuotient" (bSeq (sSet 4 (e2 geP (eD F_end_of (aCons (eMeth "seen_by" (cs6 M) (G_seen_by M 14) (eV 0) (aCons (eV 1) (aCons (e2 addP (eVo 2) (eVo 3)) aNil))) aNil)) (eVo 2))) bNil) (bSeq (sSet 4 (eC (.bl false))) bNil)) (bSeq (sIf (tB1 (eV 4)) (bSeq (sRet (eC (.bl true))) bNil) bNil) bNil))) (fs.map PV.int) [.val (enc M t), .val (.int p), .val (.int pl), s3, s4] = o ∧
      if fs.any (gdT M p t pl) = true then o = .ret (.bl true) else (∃ s3' s4', o = .next [.val (enc M t), .val (.int p), .val (.int pl), s3', s4'])
  | [], s3, s4, _ => ⟨_, rfl, by rw [List.any_nil, if_neg Bool.false_ne_true]; exact ⟨s3, s4, rfl⟩⟩
  | f :: fs, s3, s4, hf => by
    have f0 := hf f List.mem_cons_self
    rw [List.map_cons, forL_cons, gN_eq, onR_some]
    simp only [List.set_cons_succ, List.set_cons_zero]
    have run : ∀ b : Bool, gdT M p t pl f = b → (sTryO "NoQuotient" (bSeq (sSet 4 (e2 geP (eD F_end_of (aCons (eMeth "seen_by" (cs6 M) (G_seen_by M 14) (eV 0) (aCons (eV 1) (aCons (e2 addP (eVo 2) (eVo 3)) aNil))) aNil)) (eVo 2))) bNil) (bSeq (sSet 4 (eC (.bl false))) bNil)) [.val (enc M t), .val (.int p), .val (.int pl), .val (.int f), .val (.bl false)] = .next [.val (enc M t), .val (.int p), .val (.int pl), .val (.int f), .val (.bl b)] := fun b hb => by
      have c := seen_call (M := M) t (p := p) (N := pl + f) (fp := eV 1) (fN := e2 addP (eVo 2) (eVo 3)) (ρ := [.val (enc M t), .val (.int p), .val (.int pl), .val (.int f), .val (.bl false)]) 0 rfl rfl (by simp)
      unfold sTryO
      rcases g_seen h (by omega) hp (N := pl + f) (by omega) g.wf (n := 14) (by have := g.dep; omega) (by omega) with ⟨e, ds, u, a1, a2, a3, a4, a5⟩ | a1
      · have gg := gdT_ok a1
        rw [a1] at c
        have fe := f_end p e ds
        rw [← hb, gg]
        simp [c, fe]
      · have gg := gdT_no a1
        rw [a1] at c
        rw [← hb, gg]
        simp [c]
    have st : ∀ b : Bool, gdT M p t pl f = b → (bSeq (sSet 4 (eC (.bl false))) (bSeq (sTryO "NoQuotient" (bSeq (sSet 4 (e2 geP (eD F_end_of (aCons (eMeth "seen_by" (cs6 M) (G_seen_by M 14) (eV 0) (aCons (eV 1) (aCons (e2 addP (eVo 2) (eVo 3)) aNil))) aNil)) (eVo 2))) bNil) (bSeq (sSet 4 (eC (.bl false))) bNil)) (bSeq (sIf (tB1 (eV 4)) (bSeq (sRet (eC (.bl true))) bNil) bNil) bNil))) [.val (enc M t), .val (.int p), .val (.int pl), .val (.int f), s4] = (if b = true then .ret (.bl true) else .next [.val (enc M t), .val (.int p), .val (.int pl), .val (.int f), .val (.bl b)]) := fun b hb => by
      refine sqT (.bl false) rfl ?_
      simp only [List.set_cons_succ, List.set_cons_zero]
      rw [bSeq_eq, run b hb, then_next]
      cases b <;> simp
    cases hb : gdT M p t pl f with
    | true =>
      refine ⟨_, rfl, ?_⟩
      rw [st true hb, List.any_cons, hb, Bool.true_or, if_pos rfl]
      rfl
    | false =>
      obtain ⟨o, i1, i2⟩ := en_loop h hp hpl g fs (.val (.int f)) (.val (.bl false)) (fun z hz => hf z (List.mem_cons_of_mem _ hz))
      refine ⟨o, ?_, ?_⟩
      · rw [st false hb]; exact i1
      · rw [List.any_cons, hb, Bool.false_or]; exact i2
theorem f_enough {M : Str → Addr} (h : (cs6 M).Nodup) {p pl : Int} (hp : p ∈ primesL) (hpl : -100 ≤ pl ∧ pl ≤ 100) {t : T} (g : Gt t) : F__law_enough M [enc M t, .int p, .int pl] = .ok (.bl (farL.any (gdT M p t pl))) := by
  obtain ⟨o, q1, q2⟩ := en_loop h hp hpl g farL .un .un (by decide)
  refine (runF_eq (n := 5) (u := D__law_enough M)).trans ?_
  show (D__law_enough M [.val (enc M t), .val (.int p), .val (.int pl), .un, .un]).res = _
  have it : iS (eD lstP (aCons (eC (.int 0)) (aCons (eC (.int 1)) (aCons (eC (.int 2)) (aCons (eC (.int 4)) (aCons (eC (.int 8)) (aCons (eC (.int 16)) (aCons (eC (.int 32)) (aCons (eC (.int 64)) (aCons (eC (.int 128)) (aCons (eC (.int 256)) aNil))))))))))) [.val (enc M t), .val (.int p), .val (.int pl), .un, .un] = .ok (farL.map PV.int) := rfl
  unfold D__law_enough
  rw [bSeq_eq, sFor_eq, it, stL_ok, q1]
  by_cases z : farL.any (gdT M p t pl) = true
  · rw [if_pos z] at q2
    rw [q2, z]; rfl
  · rw [if_neg z] at q2
    obtain ⟨s3, s4, rfl⟩ := q2
    rw [Bool.not_eq_true] at z
    rw [z]; rfl
theorem f_refused {M : Str → Addr} (h : (cs6 M).Nodup) {p pl : Int} (hp : p ∈ primesL) (hpl : -100 ≤ pl ∧ pl ≤ 100) {t : T} (g : Gt t) (hn : ¬ farL.any (gdT M p t pl) = true) : F__law_refused M [enc M t, .int p, .int pl] = .ok (.bl true) := by
  have w := f_worked h (by omega) hp hpl g.wf g.dep
  rw [if_neg hn] at w
  obtain ⟨E, hE⟩ : ∃ E, E = enc M t := ⟨_, rfl⟩
  rw [← hE] at w ⊢
  refine (runF_eq (n := 4) (u := D__law_refused M)).trans ?_
  show (D__law_refused M [.val E, .val (.int p), .val (.int pl), .un]).res = _
  unfold D__law_refused
  refine stp (.bl false) rfl ?_
  simp only [List.set_cons_succ, List.set_cons_zero]
  have tr : (sTryO "NoQuotient" (bSeq (sDrop (eD (F_worked_out M) (aCons (eV 0) (aCons (eV 1) (aCons (eV 2) aNil))))) bNil) (bSeq (sSet 3 (eC (.bl true))) bNil)) [.val E, .val (.int p), .val (.int pl), .val (.bl false)] = .next [.val E, .val (.int p), .val (.int pl), .val (.bl true)] := by
    unfold sTryO
    simp [w]
  rw [bSeq_eq, tr, then_next]
  simp
theorem law_true : ∀ M : Str → Addr, (cs6 M).Nodup → ∀ ns : List Int, ns.length ≤ 63 → (∀ z ∈ ns, z.natAbs.log2 < 1048577) → F_law M [.frz (ns.map PV.int)] = .ok (.bl true) := by
  intro M hM ns _ _
  have hp := prime_in (nth ns 0)
  have fp := f_prime (nth ns 0)
  obtain ⟨p, hpe⟩ : ∃ p, p = nth primesL (nth ns 0 % 25) := ⟨_, rfl⟩
  rw [← hpe] at hp fp
  have hpb := primesL_le p hp
  obtain ⟨S, hS⟩ : ∃ S, S = PV.frz (ns.map PV.int) := ⟨_, rfl⟩
  have c0 := f_cell ns 0 (by omega)
  have c1 := f_cell ns 1 (by omega)
  have c2 := f_cell ns 2 (by omega)
  have sl : slP S (some 3) (some 63) = .ok (.lst (((ns.drop 3).take 60).map PV.int)) := by
    rw [hS, slP_f, cut_both _ _ _ (by omega) (by omega), ← List.map_drop, ← List.map_take]; rfl
  rw [← hS] at c0 c1 c2 ⊢
  have m61 := modP_pos (a := nth ns 1) (b := 61) (by omega)
  obtain ⟨pl, hpl⟩ : ∃ pl, pl = nth ns 1 % 61 - 30 := ⟨_, rfl⟩
  have plb : -30 ≤ pl ∧ pl ≤ 30 := by omega
  obtain ⟨x, px, hx⟩ := f_term (M := M) p hp ((ns.drop 3).take 60) (by rw [List.length_take]; omega)
  have m4 := modP_pos (a := nth ns 2) (b := 4) (by omega)
  -- from the term on
  have tail : ∀ (t : T) (C : PV), Gt t → ((bSeq (sIf (tNt (tB1 (eD (F__law_enough M) (aCons (eV 3) (aCons (eV 1) (aCons (eV 2) aNil)))))) (bSeq (sRet (eAn (eD (F__law_refused M) (aCons (eV 3) (aCons (eV 1) (aCons (eV 2) aNil)))) (eD (F__law_refused M) (aCons (eV 3) (aCons (eV 1) (aCons (eV 2) aNil)))))) bNil) bNil) (bSeq (sSet 5 (eD F_seen_left (aCons (eV 1) (aCons (eMeth "value" (cs6 M) (G_value M 14) (eV 3) aNil) (aCons (eV 2) aNil))))) (bSeq (sFor (iR rng1 (aCons (eC (.int 2)) aNil)) (gN 6) (bSeq (sSet 7 (eD (F_worked_out M) (aCons (eV 3) (aCons (eV 1) (aCons (eV 2) aNil))))) (bSeq (sIf (tOr' (tNt (tB1 (eD F_is_left (aCons (eV 7) aNil)))) (tB1 (e2 neP (eVo 7) (eVo 5)))) (bSeq (sRet (eC (.bl false))) bNil) bNil) bNil))) (bSeq (sRet (eC (.bl true))) bNil)))) [.val S, .val (.int p), .val (.int pl), .val (enc M t), .val C, .un, .un, .un]).res = .ok (.bl true) := fun t C g => by
    have en := f_enough hM hp (pl := pl) (by omega) g
    by_cases z : farL.any (gdT M p t pl) = true
    · have w := f_worked hM (by omega) hp (pl := pl) (by omega) g.wf g.dep
      rw [if_pos z] at w
      rw [z] at en
      obtain ⟨e, ds, u, w1, w2, w3, w4, w5⟩ := w
      have v := g_value hM g.wf g.bits (n := 14) (by have := g.dep; omega)
      rw [w4] at v
      have lu := g.val u w4
      obtain ⟨e', ds', s1, s2, s3, s4, _⟩ := f_seen_any (pl := pl) hp (a := u.1) (b := u.2) lu (by omega) (by omega)
      have up := lu.pos
      obtain ⟨q1, q2⟩ := bg_uniq (by omega) w2 s2 w5 s4 (by omega)
      subst q1
      subst q2
      have il := f_is_left_good p e ds hp (by have := w2.len; omega) w2.dg
      rw [decide_eq_true w2.hd] at il
      have ne := neLeft p e ds
      obtain ⟨E, hE⟩ : ∃ E, E = enc M t := ⟨_, rfl⟩
      obtain ⟨Q, hQ⟩ : ∃ Q, Q = leftV p e ds := ⟨_, rfl⟩
      have vm : eMeth "value" (cs6 M) (G_value M 14) (eV 3) aNil [.val S, .val (.int p), .val (.int pl), .val E, .val C, .un, .un, .un] = .ok (fracV u.1 u.2) := by
        rw [eMeth_ok (ps := []) (show eV 3 _ = .ok (.obj (M (clsT t)) (fldN t) (fldV M t)) by rw [hE, enc_eq]; rfl) (cls6 M t) (no_meth (.inl rfl) t) rfl, ← enc_eq, v]; rfl
      rw [← hE] at en w1 ⊢
      rw [← hQ] at w1 s1 il ne
      refine skp (by simp only [tNt_eq, tB1_eq, eD_eq, aCons_eq, aNil_eq, eVs, eV0, bind1, en, asB_eq]; rfl) ?_
      refine stp Q (by simp only [eD_eq, aCons_eq, aNil_eq, eVs, eV0, vm, bind1, s1]) ?_
      simp only [List.set_cons_succ, List.set_cons_zero]
      have lp : ∀ (items : List PV) (s6 s7 : Slot), ∃ s6' s7', forL (gN 6) (bSeq (sSet 7 (eD (F_worked_out M) (aCons (eV 3) (aCons (eV 1) (aCons (eV 2) aNil))))) (bSeq (sIf (tOr' (tNt (tB1 (eD F_is_left (aCons (eV 7) aNil)))) (tB1 (e2 neP (eVo 7) (eVo 5)))) (bSeq (sRet (eC (.bl false))) bNil) bNil) bNil)) items [.val S, .val (.int p), .val (.int pl), .val E, .val C, .val Q, s6, s7] = .next [.val S, .val (.int p), .val (.int pl), .val E, .val C, .val Q, s6', s7'] := by
        intro items
        induction items with
        | nil => exact fun s6 s7 => ⟨s6, s7, rfl⟩
        | cons q items ih =>
          intro s6 s7
          obtain ⟨s6', s7', i⟩ := ih (.val q) (.val Q)
          refine ⟨s6', s7', ?_⟩
          rw [forL_cons, gN_eq, onR_some]
          simp only [List.set_cons_succ, List.set_cons_zero]
          refine (fo2 (ρ := [.val S, .val (.int p), .val (.int pl), .val E, .val C, .val Q, .val q, .val Q]) ?_).trans i
          refine sqT Q (by simp only [eD_eq, aCons_eq, aNil_eq, eVs, eV0, bind1, w1]) ?_
          simp only [List.set_cons_succ, List.set_cons_zero]
          simp [il, ne]
      have r2 : rng1 [.int 2] = .ok (rngL 0 2) := rng1_sm (by omega) (by omega)
      obtain ⟨s6', s7', L⟩ := lp (rngL 0 2) .un .un
      refine stpFor (rngL 0 2) _ (by simp only [iR_eq, aCons_eq, aNil_eq, eC_eq, bind1, r2]) L ?_
      simp
    · have rf := f_refused hM hp (pl := pl) (by omega) g z
      rw [Bool.not_eq_true] at z
      rw [z] at en
      obtain ⟨E, hE⟩ : ∃ E, E = enc M t := ⟨_, rfl⟩
      rw [← hE] at en rf ⊢
      refine ifT (by simp only [tNt_eq, tB1_eq, eD_eq, aCons_eq, aNil_eq, eVs, eV0, bind1, en, asB_eq]; rfl) ?_
      refine asc ?_
      rw [bSeq_eq, sRet_eq]
      simp only [eAn_eq, eD_eq, aCons_eq, aNil_eq, eVs, eV0, bind1, rf, asB_eq, if_true, st_ok, then_ret, res_ret]
  refine (runF_eq (n := 8) (u := D_law M)).trans ?_
  show (D_law M [.val S, .un, .un, .un, .un, .un, .un, .un]).res = _
  unfold D_law
  refine stp (.int p) (by simp only [eD_eq, aCons_eq, aNil_eq, eV0, eC_eq, bind1, c0, fp]) ?_
  simp only [List.set_cons_succ, List.set_cons_zero]
  refine stp (.int pl) (by simp only [e2_eq, eD_eq, aCons_eq, aNil_eq, eV0, eC_eq, bind1, c1, m61, subP_ii, hpl]) ?_
  simp only [List.set_cons_succ, List.set_cons_zero]
  refine stp (enc M x.1) (by simp only [eD_eq, aCons_eq, aNil_eq, eV0, eVs, eVo0, eSl_eq, oSome_eq, eC_eq, asI_eq, bind1, sl, px]) ?_
  simp only [List.set_cons_succ, List.set_cons_zero]
  refine stp (.int (nth ns 2)) (by simp only [eD_eq, aCons_eq, aNil_eq, eV0, eC_eq, bind1, c2]) ?_
  simp only [List.set_cons_succ, List.set_cons_zero]
  by_cases q : nth ns 2 % 4 = 3
  · obtain ⟨t, pt, gt⟩ := f_near (M := M) p (nth ns 2) (by omega) hx
    obtain ⟨E, hE⟩ : ∃ E, E = enc M x.1 := ⟨_, rfl⟩
    rw [← hE] at pt ⊢
    refine ifT (by simp [m4, q]) ?_
    refine asc (stp (enc M t) (by simp only [eD_eq, aCons_eq, aNil_eq, eV0, eVs, bind1, pt]) (nil_k ?_))
    simp only [List.set_cons_succ, List.set_cons_zero]
    exact tail t _ gt
  · have q' : (nth ns 2 % 4 == 3) = false := by simpa using q
    refine skp (by simp [m4, q']) ?_
    exact tail x.1 _ hx.gt
end K95
set_option Elab.async false
set_option linter.all false
set_option maxRecDepth 100000
set_option autoImplicit false
set_option maxHeartbeats 0
namespace K95
open PySem PySem.Spec L2 PL PM
open PyProof.Rows hiding St
def topS (i : Nat) : Stmt := PySem.Challenge.pw_leftnumbers_k95_whole_worked_out.main.body.getD i (.Pass ⟨0, 0, 0, 0⟩)
abbrev st_is_whole : Stmt := topS 12
theorem sc_is_whole : FnScope ["thing"] ["thing"] (defScope st_is_whole) := ⟨rfl, rfl, rfl, by decide +kernel, rfl, by decide +kernel, by decide +kernel⟩
abbrev st_is_prime : Stmt := topS 13
theorem sc_is_prime : FnScope ["thing", "part"] ["thing"] (defScope st_is_prime) := ⟨rfl, rfl, rfl, by decide +kernel, rfl, by decide +kernel, by decide +kernel⟩
abbrev st_power_of : Stmt := topS 14
theorem sc_power_of : FnScope ["p", "times", "found", "k"] ["p", "times"] (defScope st_power_of) := ⟨rfl, rfl, rfl, by decide +kernel, rfl, by decide +kernel, by decide +kernel⟩
abbrev st_exponent : Stmt := topS 15
theorem sc_exponent : FnScope ["p", "number", "found", "rest", "left"] ["p", "number"] (defScope st_exponent) := ⟨rfl, rfl, rfl, by decide +kernel, rfl, by decide +kernel, by decide +kernel⟩
abbrev st_divisor : Stmt := topS 17
theorem sc_divisor : FnScope ["one", "other"] ["one", "other"] (defScope st_divisor) := ⟨rfl, rfl, rfl, by decide +kernel, rfl, by decide +kernel, by decide +kernel⟩
abbrev st_fraction : Stmt := topS 18
theorem sc_fraction : FnScope ["top", "bottom", "share"] ["top", "bottom"] (defScope st_fraction) := ⟨rfl, rfl, rfl, by decide +kernel, rfl, by decide +kernel, by decide +kernel⟩
abbrev st_is_fraction : Stmt := topS 19
theorem sc_is_fraction : FnScope ["thing"] ["thing"] (defScope st_is_fraction) := ⟨rfl, rfl, rfl, by decide +kernel, rfl, by decide +kernel, by decide +kernel⟩
abbrev st_plus_fraction : Stmt := topS 20
theorem sc_plus_fraction : FnScope ["one", "other"] ["one", "other"] (defScope st_plus_fraction) := ⟨rfl, rfl, rfl, by decide +kernel, rfl, by decide +kernel, by decide +kernel⟩
abbrev st_minus_fraction : Stmt := topS 21
theorem sc_minus_fraction : FnScope ["one", "other"] ["one", "other"] (defScope st_minus_fraction) := ⟨rfl, rfl, rfl, by decide +kernel, rfl, by decide +kernel, by decide +kernel⟩
abbrev st_times_fraction : Stmt := topS 22
theorem sc_times_fraction : FnScope ["one", "other"] ["one", "other"] (defScope st_times_fraction) := ⟨rfl, rfl, rfl, by decide +kernel, rfl, by decide +kernel, by decide +kernel⟩
abbrev st_over_fraction : Stmt := topS 23
theorem sc_over_fraction : FnScope ["one", "other"] ["one", "other"] (defScope st_over_fraction) := ⟨rfl, rfl, rfl, by decide +kernel, rfl, by decide +kernel, by decide +kernel⟩
abbrev st_exponent_of : Stmt := topS 24
theorem sc_exponent_of : FnScope ["p", "one"] ["p", "one"] (defScope st_exponent_of) := ⟨rfl, rfl, rfl, by decide +kernel, rfl, by decide +kernel, by decide +kernel⟩
abbrev st_are_figures : Stmt := topS 26
theorem sc_are_figures : FnScope ["p", "figures", "one"] ["p", "figures"] (defScope st_are_figures) := ⟨rfl, rfl, rfl, by decide +kernel, rfl, by decide +kernel, by decide +kernel⟩
abbrev st_left_number : Stmt := topS 27
theorem sc_left_number : FnScope ["p", "least", "figures", "noughts"] ["p", "least", "figures"] (defScope st_left_number) := ⟨rfl, rfl, rfl, by decide +kernel, rfl, by decide +kernel, by decide +kernel⟩
abbrev st_is_left : Stmt := topS 28
theorem sc_is_left : FnScope ["thing"] ["thing"] (defScope st_is_left) := ⟨rfl, rfl, rfl, by decide +kernel, rfl, by decide +kernel, by decide +kernel⟩
abbrev st_end_of : Stmt := topS 29
theorem sc_end_of : FnScope ["one"] ["one"] (defScope st_end_of) := ⟨rfl, rfl, rfl, by decide +kernel, rfl, by decide +kernel, by decide +kernel⟩
abbrev st_known_of : Stmt := topS 30
theorem sc_known_of : FnScope ["one"] ["one"] (defScope st_known_of) := ⟨rfl, rfl, rfl, by decide +kernel, rfl, by decide +kernel, by decide +kernel⟩
abbrev st_unit_of : Stmt := topS 31
theorem sc_unit_of : FnScope ["one", "found", "digit"] ["one"] (defScope st_unit_of) := ⟨rfl, rfl, rfl, by decide +kernel, rfl, by decide +kernel, by decide +kernel⟩
abbrev st_of_whole : Stmt := topS 32
theorem sc_of_whole : FnScope ["p", "least", "number", "many", "figures", "k", "digit"] ["p", "least", "number", "many"] (defScope st_of_whole) := ⟨rfl, rfl, rfl, by decide +kernel, rfl, by decide +kernel, by decide +kernel⟩
abbrev st_want_alike : Stmt := topS 33
theorem sc_want_alike : FnScope ["one", "other"] ["one", "other"] (defScope st_want_alike) := ⟨rfl, rfl, rfl, by decide +kernel, rfl, by decide +kernel, by decide +kernel⟩
abbrev st_cut_at : Stmt := topS 35
theorem sc_cut_at : FnScope ["one", "place"] ["one", "place"] (defScope st_cut_at) := ⟨rfl, rfl, rfl, by decide +kernel, rfl, by decide +kernel, by decide +kernel⟩
abbrev st_bared : Stmt := topS 41
theorem sc_bared : FnScope ["p", "part", "number"] ["p", "part"] (defScope st_bared) := ⟨rfl, rfl, rfl, by decide +kernel, rfl, by decide +kernel, by decide +kernel⟩
abbrev st_figures_of : Stmt := topS 42
theorem sc_figures_of : FnScope ["p", "top", "bottom", "many", "over", "figures", "k", "figure", "one"] ["p", "top", "bottom", "many"] (defScope st_figures_of) := ⟨rfl, rfl, rfl, by decide +kernel, rfl, by decide +kernel, by decide +kernel⟩
abbrev st_seen_left : Stmt := topS 43
theorem sc_seen_left : FnScope ["p", "part", "place", "least", "top", "bottom"] ["p", "part", "place"] (defScope st_seen_left) := ⟨rfl, rfl, rfl, by decide +kernel, rfl, by decide +kernel, by decide +kernel⟩
abbrev st_plus : Stmt := topS 50
theorem sc_plus : FnScope ["one", "other", "last", "first", "second", "least", "number"] ["one", "other"] (defScope st_plus) := ⟨rfl, rfl, rfl, by decide +kernel, rfl, by decide +kernel, by decide +kernel⟩
abbrev st_opposite : Stmt := topS 51
theorem sc_opposite : FnScope ["one"] ["one"] (defScope st_opposite) := ⟨rfl, rfl, rfl, by decide +kernel, rfl, by decide +kernel, by decide +kernel⟩
abbrev st_minus : Stmt := topS 52
theorem sc_minus : FnScope ["one", "other"] ["one", "other"] (defScope st_minus) := ⟨rfl, rfl, rfl, by decide +kernel, rfl, by decide +kernel, by decide +kernel⟩
abbrev st_multiplied : Stmt := topS 54
theorem sc_multiplied : FnScope ["one", "other", "many"] ["one", "other"] (defScope st_multiplied) := ⟨rfl, rfl, rfl, by decide +kernel, rfl, by decide +kernel, by decide +kernel⟩
abbrev st_turned_over : Stmt := topS 56
theorem sc_turned_over : FnScope ["number", "whole", "one", "other", "found", "further", "share", "rest"] ["number", "whole"] (defScope st_turned_over) := ⟨rfl, rfl, rfl, by decide +kernel, rfl, by decide +kernel, by decide +kernel⟩
abbrev st_divided : Stmt := topS 57
theorem sc_divided : FnScope ["one", "other", "many", "over"] ["one", "other"] (defScope st_divided) := ⟨rfl, rfl, rfl, by decide +kernel, rfl, by decide +kernel, by decide +kernel⟩
abbrev st_known_of_power : Stmt := topS 47
theorem sc_known_of_power : FnScope ["p", "many", "times", "more"] ["p", "many", "times"] (defScope st_known_of_power) := ⟨rfl, rfl, rfl, by decide +kernel, rfl, by decide +kernel, by decide +kernel⟩
abbrev st_often : Stmt := topS 46
theorem sc_often : FnScope ["number", "times", "whole", "found"] ["number", "times", "whole"] (defScope st_often) := ⟨rfl, rfl, rfl, by decide +kernel, rfl, by decide +kernel, by decide +kernel⟩
abbrev st_raised : Stmt := topS 48
theorem sc_raised : FnScope ["one", "times", "many", "number"] ["one", "times"] (defScope st_raised) := ⟨rfl, rfl, rfl, by decide +kernel, rfl, by decide +kernel, by decide +kernel⟩
abbrev st_tried : Stmt := topS 38
theorem sc_tried : FnScope ["term", "p", "place", "found"] ["term", "p", "place"] (defScope st_tried) := ⟨rfl, rfl, rfl, by decide +kernel, rfl, by decide +kernel, by decide +kernel⟩
abbrev st_worked_out : Stmt := topS 39
theorem sc_worked_out : FnScope ["term", "p", "place", "far", "found"] ["term", "p", "place"] (defScope st_worked_out) := ⟨rfl, rfl, rfl, by decide +kernel, rfl, by decide +kernel, by decide +kernel⟩
abbrev st__law_cell_at : Stmt := topS 68
theorem sc__law_cell_at : FnScope ["_law_script", "_law_k"] ["_law_script", "_law_k"] (defScope st__law_cell_at) := ⟨rfl, rfl, rfl, by decide +kernel, rfl, by decide +kernel, by decide +kernel⟩
abbrev st__law_prime : Stmt := topS 69
theorem sc__law_prime : FnScope ["_law_cell", "_law_some"] ["_law_cell"] (defScope st__law_prime) := ⟨rfl, rfl, rfl, by decide +kernel, rfl, by decide +kernel, by decide +kernel⟩
abbrev st__law_times : Stmt := topS 70
theorem sc__law_times : FnScope ["_law_p", "_law_tally", "_law_found", "_law_k"] ["_law_p", "_law_tally"] (defScope st__law_times) := ⟨rfl, rfl, rfl, by decide +kernel, rfl, by decide +kernel, by decide +kernel⟩
abbrev st__law_lowest : Stmt := topS 71
theorem sc__law_lowest : FnScope ["_law_top", "_law_bottom", "_law_one", "_law_other"] ["_law_top", "_law_bottom"] (defScope st__law_lowest) := ⟨rfl, rfl, rfl, by decide +kernel, rfl, by decide +kernel, by decide +kernel⟩
abbrev st__law_part : Stmt := topS 72
theorem sc__law_part : FnScope ["_law_p", "_law_cell", "_law_top", "_law_bottom"] ["_law_p", "_law_cell"] (defScope st__law_part) := ⟨rfl, rfl, rfl, by decide +kernel, rfl, by decide +kernel, by decide +kernel⟩
abbrev st__law_of_two : Stmt := topS 73
theorem sc__law_of_two : FnScope ["_law_kind", "_law_one", "_law_other", "_law_made"] ["_law_kind", "_law_one", "_law_other"] (defScope st__law_of_two) := ⟨rfl, rfl, rfl, by decide +kernel, rfl, by decide +kernel, by decide +kernel⟩
abbrev st__law_room : Stmt := topS 74
theorem sc__law_room : FnScope ["_law_stack", "_law_kind", "_law_n"] ["_law_stack", "_law_kind", "_law_n"] (defScope st__law_room) := ⟨rfl, rfl, rfl, by decide +kernel, rfl, by decide +kernel, by decide +kernel⟩
abbrev st__law_term : Stmt := topS 75
theorem sc__law_term : FnScope ["_law_p", "_law_cells", "_law_stack", "_law_cell", "_law_kind", "_law_n"] ["_law_p", "_law_cells"] (defScope st__law_term) := ⟨rfl, rfl, rfl, by decide +kernel, rfl, by decide +kernel, by decide +kernel⟩
abbrev st__law_small : Stmt := topS 76
theorem sc__law_small : FnScope ["_law_p", "_law_tally", "_law_number", "_law_k"] ["_law_p", "_law_tally"] (defScope st__law_small) := ⟨rfl, rfl, rfl, by decide +kernel, rfl, by decide +kernel, by decide +kernel⟩
abbrev st__law_near : Stmt := topS 77
theorem sc__law_near : FnScope ["_law_p", "_law_term_here", "_law_cell", "_law_small_here", "_law_made"] ["_law_p", "_law_term_here", "_law_cell"] (defScope st__law_near) := ⟨rfl, rfl, rfl, by decide +kernel, rfl, by decide +kernel, by decide +kernel⟩
abbrev st__law_enough : Stmt := topS 78
theorem sc__law_enough : FnScope ["_law_term_here", "_law_p", "_law_place", "_law_far", "_law_found"] ["_law_term_here", "_law_p", "_law_place"] (defScope st__law_enough) := ⟨rfl, rfl, rfl, by decide +kernel, rfl, by decide +kernel, by decide +kernel⟩
abbrev st__law_refused : Stmt := topS 79
theorem sc__law_refused : FnScope ["_law_term_here", "_law_p", "_law_place", "_law_refused_here"] ["_law_term_here", "_law_p", "_law_place"] (defScope st__law_refused) := ⟨rfl, rfl, rfl, by decide +kernel, rfl, by decide +kernel, by decide +kernel⟩
abbrev st_law : Stmt := topS 80
theorem sc_law : FnScope ["_law_script", "_law_p", "_law_place", "_law_term_here", "_law_cell", "_law_due", "_law_k", "_law_told"] ["_law_script"] (defScope st_law) := ⟨rfl, rfl, rfl, by decide +kernel, rfl, by decide +kernel, by decide +kernel⟩
abbrev st_Part_seen_by : Stmt := inClass (topS 60) 3
theorem sc_Part_seen_by : FnScope ["self", "p", "place"] ["self", "p", "place"] (defScope st_Part_seen_by) := ⟨rfl, rfl, rfl, by decide +kernel, rfl, by decide +kernel, by decide +kernel⟩
abbrev st_Sum_of_lefts : Stmt := inClass (topS 62) 2
theorem sc_Sum_of_lefts : FnScope ["self", "one", "other"] ["self", "one", "other"] (defScope st_Sum_of_lefts) := ⟨rfl, rfl, rfl, by decide +kernel, rfl, by decide +kernel, by decide +kernel⟩
abbrev st_Difference_of_lefts : Stmt := inClass (topS 63) 2
theorem sc_Difference_of_lefts : FnScope ["self", "one", "other"] ["self", "one", "other"] (defScope st_Difference_of_lefts) := ⟨rfl, rfl, rfl, by decide +kernel, rfl, by decide +kernel, by decide +kernel⟩
abbrev st_Product_of_lefts : Stmt := inClass (topS 64) 2
theorem sc_Product_of_lefts : FnScope ["self", "one", "other"] ["self", "one", "other"] (defScope st_Product_of_lefts) := ⟨rfl, rfl, rfl, by decide +kernel, rfl, by decide +kernel, by decide +kernel⟩
abbrev st_Quotient_of_lefts : Stmt := inClass (topS 65) 2
theorem sc_Quotient_of_lefts : FnScope ["self", "one", "other"] ["self", "one", "other"] (defScope st_Quotient_of_lefts) := ⟨rfl, rfl, rfl, by decide +kernel, rfl, by decide +kernel, by decide +kernel⟩
abbrev st_Pair_seen_by : Stmt := inClass (topS 61) 8
theorem sc_Pair_seen_by : FnScope ["self", "p", "place"] ["self", "p", "place"] (defScope st_Pair_seen_by) := ⟨rfl, rfl, rfl, by decide +kernel, rfl, by decide +kernel, by decide +kernel⟩
abbrev st_Power_seen_by : Stmt := inClass (topS 66) 5
theorem sc_Power_seen_by : FnScope ["self", "p", "place"] ["self", "p", "place"] (defScope st_Power_seen_by) := ⟨rfl, rfl, rfl, by decide +kernel, rfl, by decide +kernel, by decide +kernel⟩
abbrev st_Part_value : Stmt := inClass (topS 60) 1
theorem sc_Part_value : FnScope ["self"] ["self"] (defScope st_Part_value) := ⟨rfl, rfl, rfl, by decide +kernel, rfl, by decide +kernel, by decide +kernel⟩
abbrev st_Sum_of_fractions : Stmt := inClass (topS 62) 1
theorem sc_Sum_of_fractions : FnScope ["self", "one", "other"] ["self", "one", "other"] (defScope st_Sum_of_fractions) := ⟨rfl, rfl, rfl, by decide +kernel, rfl, by decide +kernel, by decide +kernel⟩
abbrev st_Difference_of_fractions : Stmt := inClass (topS 63) 1
theorem sc_Difference_of_fractions : FnScope ["self", "one", "other"] ["self", "one", "other"] (defScope st_Difference_of_fractions) := ⟨rfl, rfl, rfl, by decide +kernel, rfl, by decide +kernel, by decide +kernel⟩
abbrev st_Product_of_fractions : Stmt := inClass (topS 64) 1
theorem sc_Product_of_fractions : FnScope ["self", "one", "other"] ["self", "one", "other"] (defScope st_Product_of_fractions) := ⟨rfl, rfl, rfl, by decide +kernel, rfl, by decide +kernel, by decide +kernel⟩
abbrev st_Quotient_of_fractions : Stmt := inClass (topS 65) 1
theorem sc_Quotient_of_fractions : FnScope ["self", "one", "other"] ["self", "one", "other"] (defScope st_Quotient_of_fractions) := ⟨rfl, rfl, rfl, by decide +kernel, rfl, by decide +kernel, by decide +kernel⟩
abbrev st_Pair_value : Stmt := inClass (topS 61) 6
theorem sc_Pair_value : FnScope ["self"] ["self"] (defScope st_Pair_value) := ⟨rfl, rfl, rfl, by decide +kernel, rfl, by decide +kernel, by decide +kernel⟩
abbrev st_Power_value : Stmt := inClass (topS 66) 3
theorem sc_Power_value : FnScope ["self", "part", "found", "k"] ["self"] (defScope st_Power_value) := ⟨rfl, rfl, rfl, by decide +kernel, rfl, by decide +kernel, by decide +kernel⟩
abbrev st_Pair___init__ : Stmt := inClass (topS 61) 0
theorem sc_Pair___init__ : FnScope ["self", "one", "other"] ["self", "one", "other"] (defScope st_Pair___init__) := ⟨rfl, rfl, rfl, by decide +kernel, rfl, by decide +kernel, by decide +kernel⟩
abbrev st_Part___init__ : Stmt := inClass (topS 60) 0
theorem sc_Part___init__ : FnScope ["self", "part"] ["self", "part"] (defScope st_Part___init__) := ⟨rfl, rfl, rfl, by decide +kernel, rfl, by decide +kernel, by decide +kernel⟩
abbrev st_Power___init__ : Stmt := inClass (topS 66) 0
theorem sc_Power___init__ : FnScope ["self", "one", "n"] ["self", "one", "n"] (defScope st_Power___init__) := ⟨rfl, rfl, rfl, by decide +kernel, rfl, by decide +kernel, by decide +kernel⟩
structure Tx (K : PySem.W.Frag) (mg : Str → Option Value) : Prop where
  d_is_whole : DefE K mg "is_whole" st_is_whole ["thing"]
  d_is_prime : DefE K mg "is_prime" st_is_prime ["thing"]
  d_power_of : DefE K mg "power_of" st_power_of ["p", "times"]
  d_exponent : DefE K mg "exponent" st_exponent ["p", "number"]
  d_divisor : DefE K mg "divisor" st_divisor ["one", "other"]
  d_fraction : DefED K mg "fraction" st_fraction ["top", "bottom"]
  d_is_fraction : DefE K mg "is_fraction" st_is_fraction ["thing"]
  d_plus_fraction : DefE K mg "plus_fraction" st_plus_fraction ["one", "other"]
  d_minus_fraction : DefE K mg "minus_fraction" st_minus_fraction ["one", "other"]
  d_times_fraction : DefE K mg "times_fraction" st_times_fraction ["one", "other"]
  d_over_fraction : DefE K mg "over_fraction" st_over_fraction ["one", "other"]
  d_exponent_of : DefE K mg "exponent_of" st_exponent_of ["p", "one"]
  d_are_figures : DefE K mg "are_figures" st_are_figures ["p", "figures"]
  d_left_number : DefE K mg "left_number" st_left_number ["p", "least", "figures"]
  d_is_left : DefE K mg "is_left" st_is_left ["thing"]
  d_end_of : DefE K mg "end_of" st_end_of ["one"]
  d_known_of : DefE K mg "known_of" st_known_of ["one"]
  d_unit_of : DefE K mg "unit_of" st_unit_of ["one"]
  d_of_whole : DefE K mg "of_whole" st_of_whole ["p", "least", "number", "many"]
  d_want_alike : DefE K mg "want_alike" st_want_alike ["one", "other"]
  d_cut_at : DefE K mg "cut_at" st_cut_at ["one", "place"]
  d_bared : DefE K mg "bared" st_bared ["p", "part"]
  d_figures_of : DefE K mg "figures_of" st_figures_of ["p", "top", "bottom", "many"]
  d_seen_left : DefE K mg "seen_left" st_seen_left ["p", "part", "place"]
  d_plus : DefE K mg "plus" st_plus ["one", "other"]
  d_opposite : DefE K mg "opposite" st_opposite ["one"]
  d_minus : DefE K mg "minus" st_minus ["one", "other"]
  d_multiplied : DefE K mg "multiplied" st_multiplied ["one", "other"]
  d_turned_over : DefE K mg "turned_over" st_turned_over ["number", "whole"]
  d_divided : DefE K mg "divided" st_divided ["one", "other"]
  d_known_of_power : DefE K mg "known_of_power" st_known_of_power ["p", "many", "times"]
  d_often : DefE K mg "often" st_often ["number", "times", "whole"]
  d_raised : DefE K mg "raised" st_raised ["one", "times"]
  d_tried : DefE K mg "tried" st_tried ["term", "p", "place"]
  d_worked_out : DefE K mg "worked_out" st_worked_out ["term", "p", "place"]
  d__law_cell_at : DefE K mg "_law_cell_at" st__law_cell_at ["_law_script", "_law_k"]
  d__law_prime : DefE K mg "_law_prime" st__law_prime ["_law_cell"]
  d__law_times : DefE K mg "_law_times" st__law_times ["_law_p", "_law_tally"]
  d__law_lowest : DefE K mg "_law_lowest" st__law_lowest ["_law_top", "_law_bottom"]
  d__law_part : DefE K mg "_law_part" st__law_part ["_law_p", "_law_cell"]
  d__law_of_two : DefE K mg "_law_of_two" st__law_of_two ["_law_kind", "_law_one", "_law_other"]
  d__law_room : DefE K mg "_law_room" st__law_room ["_law_stack", "_law_kind", "_law_n"]
  d__law_term : DefE K mg "_law_term" st__law_term ["_law_p", "_law_cells"]
  d__law_small : DefE K mg "_law_small" st__law_small ["_law_p", "_law_tally"]
  d__law_near : DefE K mg "_law_near" st__law_near ["_law_p", "_law_term_here", "_law_cell"]
  d__law_enough : DefE K mg "_law_enough" st__law_enough ["_law_term_here", "_law_p", "_law_place"]
  d__law_refused : DefE K mg "_law_refused" st__law_refused ["_law_term_here", "_law_p", "_law_place"]
  n_abs : mg "abs" = none
  n_all : mg "all" = none
  n_bool : mg "bool" = none
  n_divmod : mg "divmod" = none
  n_int : mg "int" = none
  n_isinstance : mg "isinstance" = none
  n_len : mg "len" = none
  n_list : mg "list" = none
  n_max : mg "max" = none
  n_min : mg "min" = none
  n_range : mg "range" = none
  n_reversed : mg "reversed" = none
  n_sum : mg "sum" = none
  n_tuple : mg "tuple" = none
  c_MOST_PRIME : GlI mg "MOST_PRIME" 97
  c_MOST_TIMES : GlI mg "MOST_TIMES" 1000
  x_NoFigures : ∃ C, ExcT K mg "NoFigures" C
  x_NoFraction : ∃ C, ExcT K mg "NoFraction" C
  x_NoPlace : ∃ C, ExcT K mg "NoPlace" C
  x_NoPower : ∃ C, ExcT K mg "NoPower" C
  x_NoPrime : ∃ C, ExcT K mg "NoPrime" C
  x_NoQuotient : ∃ C, ExcT K mg "NoQuotient" C
  x_Unlike : ∃ C, ExcT K mg "Unlike" C
  v_NoQuotient : ∃ C, mg "NoQuotient" = some (.ref C)
  e_NoQuotient : KO K mg "NoQuotient" "NoQuotient"
  t_FARTHER : GlT K mg "FARTHER" [0, 1, 2, 4, 8, 16, 32, 64, 128, 256]
  ms : (cs6 (addrOf mg)).Nodup
  cl_Part : ClsE K mg "Part"
  cl_Sum : ClsE K mg "Sum"
  cl_Difference : ClsE K mg "Difference"
  cl_Product : ClsE K mg "Product"
  cl_Quotient : ClsE K mg "Quotient"
  cl_Power : ClsE K mg "Power"
  mk_Difference : MakeE K mg "Difference" "Pair.__init__" st_Pair___init__ ["self", "one", "other"]
  mk_Part : MakeE K mg "Part" "Part.__init__" st_Part___init__ ["self", "part"]
  mk_Power : MakeE K mg "Power" "Power.__init__" st_Power___init__ ["self", "one", "n"]
  mk_Product : MakeE K mg "Product" "Pair.__init__" st_Pair___init__ ["self", "one", "other"]
  mk_Quotient : MakeE K mg "Quotient" "Pair.__init__" st_Pair___init__ ["self", "one", "other"]
  mk_Sum : MakeE K mg "Sum" "Pair.__init__" st_Pair___init__ ["self", "one", "other"]
  mm_Part_seen_by : MethE K mg "Part" "seen_by" "Part.seen_by" st_Part_seen_by ["self", "p", "place"]
  mm_Sum_seen_by : MethE K mg "Sum" "seen_by" "Pair.seen_by" st_Pair_seen_by ["self", "p", "place"]
  mm_Difference_seen_by : MethE K mg "Difference" "seen_by" "Pair.seen_by" st_Pair_seen_by ["self", "p", "place"]
  mm_Product_seen_by : MethE K mg "Product" "seen_by" "Pair.seen_by" st_Pair_seen_by ["self", "p", "place"]
  mm_Quotient_seen_by : MethE K mg "Quotient" "seen_by" "Pair.seen_by" st_Pair_seen_by ["self", "p", "place"]
  mm_Power_seen_by : MethE K mg "Power" "seen_by" "Power.seen_by" st_Power_seen_by ["self", "p", "place"]
  mm_Sum_of_lefts : MethE K mg "Sum" "of_lefts" "Sum.of_lefts" st_Sum_of_lefts ["self", "one", "other"]
  mm_Difference_of_lefts : MethE K mg "Difference" "of_lefts" "Difference.of_lefts" st_Difference_of_lefts ["self", "one", "other"]
  mm_Product_of_lefts : MethE K mg "Product" "of_lefts" "Product.of_lefts" st_Product_of_lefts ["self", "one", "other"]
  mm_Quotient_of_lefts : MethE K mg "Quotient" "of_lefts" "Quotient.of_lefts" st_Quotient_of_lefts ["self", "one", "other"]
  mm_Part_value : MethE K mg "Part" "value" "Part.value" st_Part_value ["self"]
  mm_Sum_value : MethE K mg "Sum" "value" "Pair.value" st_Pair_value ["self"]
  mm_Difference_value : MethE K mg "Difference" "value" "Pair.value" st_Pair_value ["self"]
  mm_Product_value : MethE K mg "Product" "value" "Pair.value" st_Pair_value ["self"]
  mm_Quotient_value : MethE K mg "Quotient" "value" "Pair.value" st_Pair_value ["self"]
  mm_Power_value : MethE K mg "Power" "value" "Power.value" st_Power_value ["self"]
  mm_Sum_of_fractions : MethE K mg "Sum" "of_fractions" "Sum.of_fractions" st_Sum_of_fractions ["self", "one", "other"]
  mm_Difference_of_fractions : MethE K mg "Difference" "of_fractions" "Difference.of_fractions" st_Difference_of_fractions ["self", "one", "other"]
  mm_Product_of_fractions : MethE K mg "Product" "of_fractions" "Product.of_fractions" st_Product_of_fractions ["self", "one", "other"]
  mm_Quotient_of_fractions : MethE K mg "Quotient" "of_fractions" "Quotient.of_fractions" st_Quotient_of_fractions ["self", "one", "other"]
section
variable {P : Program} {w : World} {K : PySem.W.Frag} {mg : Str → Option Value} {base : Heap}
theorem in_Pair___init__ {x : Str} (T : MakeE K mg x "Pair.__init__" st_Pair___init__ ["self", "one", "other"]) : ∃ f fd ps, Mk K (addrOf mg x) f ∧ L2.Binds K fd ps [] ∧ FnOk P w K mg base (L2N.CX P w) 1 f fd ps (spInit K ["one", "other"]) := by
  obtain ⟨f, fd, M, F, b⟩ := T
  refine ⟨f, fd, _, M, b, Fun_okN F sc_Pair___init__ (fun vs H Q E h => ?_) (fun cdv A outer s H vs Q E hr h => ?_)⟩
  · obtain ⟨x, dx, C, ws, rfl, hl, _⟩ := h
    rw [List.length_cons, hl]; rfl
  · obtain ⟨x, dx, C, ws, rfl, hl, hx, c, q⟩ := h
    match ws, hl with
    | [u0, u1], _ =>
      refine ⟨_, pss_cons (ps_fld (pv 0) (pv 1) rfl) (pss_one (ps_fld (pv 0) (pv 2) rfl)), ?_⟩
      refine ⟨u0, rfl, .ref x, rfl, x, C, dx, _, rfl, hx, c.cl, c.na _ (by decide), (by show 0 < 1000; decide), ?_⟩
      refine ⟨u1, rfl, .ref x, rfl, x, C, dx, _, rfl, upd_same, c.cl, c.na _ (by decide), (by show 1 < 1000; decide), ?_⟩
      have e : putF "other" u1 (putF "one" u0 []) = [(("one" : Str), u0), (("other" : Str), u1)] := by simp [putF, show ¬ (("one" : Str) = "other") from by decide]
      rw [upd_upd, e]
      exact q
theorem in_Part___init__ {x : Str} (T : MakeE K mg x "Part.__init__" st_Part___init__ ["self", "part"]) : ∃ f fd ps, Mk K (addrOf mg x) f ∧ L2.Binds K fd ps [] ∧ FnOk P w K mg base (L2N.CX P w) 1 f fd ps (spInit K ["part"]) := by
  obtain ⟨f, fd, M, F, b⟩ := T
  refine ⟨f, fd, _, M, b, Fun_okN F sc_Part___init__ (fun vs H Q E h => ?_) (fun cdv A outer s H vs Q E hr h => ?_)⟩
  · obtain ⟨x, dx, C, ws, rfl, hl, _⟩ := h
    rw [List.length_cons, hl]; rfl
  · obtain ⟨x, dx, C, ws, rfl, hl, hx, c, q⟩ := h
    match ws, hl with
    | [u0], _ =>
      refine ⟨_, pss_one (ps_fld (pv 0) (pv 1) rfl), ?_⟩
      refine ⟨u0, rfl, .ref x, rfl, x, C, dx, _, rfl, hx, c.cl, c.na _ (by decide), (by show 0 < 1000; decide), ?_⟩
      exact q
theorem in_Power___init__ {x : Str} (T : MakeE K mg x "Power.__init__" st_Power___init__ ["self", "one", "n"]) : ∃ f fd ps, Mk K (addrOf mg x) f ∧ L2.Binds K fd ps [] ∧ FnOk P w K mg base (L2N.CX P w) 1 f fd ps (spInit K ["one", "n"]) := by
  obtain ⟨f, fd, M, F, b⟩ := T
  refine ⟨f, fd, _, M, b, Fun_okN F sc_Power___init__ (fun vs H Q E h => ?_) (fun cdv A outer s H vs Q E hr h => ?_)⟩
  · obtain ⟨x, dx, C, ws, rfl, hl, _⟩ := h
    rw [List.length_cons, hl]; rfl
  · obtain ⟨x, dx, C, ws, rfl, hl, hx, c, q⟩ := h
    match ws, hl with
    | [u0, u1], _ =>
      refine ⟨_, pss_cons (ps_fld (pv 0) (pv 1) rfl) (pss_one (ps_fld (pv 0) (pv 2) rfl)), ?_⟩
      refine ⟨u0, rfl, .ref x, rfl, x, C, dx, _, rfl, hx, c.cl, c.na _ (by decide), (by show 0 < 1000; decide), ?_⟩
      refine ⟨u1, rfl, .ref x, rfl, x, C, dx, _, rfl, upd_same, c.cl, c.na _ (by decide), (by show 1 < 1000; decide), ?_⟩
      have e : putF "n" u1 (putF "one" u0 []) = [(("one" : Str), u0), (("n" : Str), u1)] := by simp [putF, show ¬ (("one" : Str) = "n") from by decide]
      rw [upd_upd, e]
      exact q
theorem mk_Difference (B : Tx K mg) : MkE P w K mg base "Difference" (addrOf mg "Difference") ["one", "other"] 1 := ⟨in_Pair___init__ B.mk_Difference, B.cl_Difference.g, B.cl_Difference.c⟩
theorem mk_Part (B : Tx K mg) : MkE P w K mg base "Part" (addrOf mg "Part") ["part"] 1 := ⟨in_Part___init__ B.mk_Part, B.cl_Part.g, B.cl_Part.c⟩
theorem mk_Power (B : Tx K mg) : MkE P w K mg base "Power" (addrOf mg "Power") ["one", "n"] 1 := ⟨in_Power___init__ B.mk_Power, B.cl_Power.g, B.cl_Power.c⟩
theorem mk_Product (B : Tx K mg) : MkE P w K mg base "Product" (addrOf mg "Product") ["one", "other"] 1 := ⟨in_Pair___init__ B.mk_Product, B.cl_Product.g, B.cl_Product.c⟩
theorem mk_Quotient (B : Tx K mg) : MkE P w K mg base "Quotient" (addrOf mg "Quotient") ["one", "other"] 1 := ⟨in_Pair___init__ B.mk_Quotient, B.cl_Quotient.g, B.cl_Quotient.c⟩
theorem mk_Sum (B : Tx K mg) : MkE P w K mg base "Sum" (addrOf mg "Sum") ["one", "other"] 1 := ⟨in_Pair___init__ B.mk_Sum, B.cl_Sum.g, B.cl_Sum.c⟩
theorem bd_is_whole (B : Tx K mg) {f : Addr} {cdv : Value} {A : Around} {outer : List PySem.Env} {s : Shared} {H : Hp} {E : XK} (hr : Room 0 (A.deeper (envOfC "is_whole" (defScope st_is_whole) s.heap.objs.size f cdv))) :
    BJ (cxOf (L2N.CX P w) P w K mg base ["thing"] "is_whole" (defScope st_is_whole) f cdv A outer s H E) (fun cls d _ H => E cls d H) false (defBody st_is_whole) D_is_whole :=
  (b_cons (s_ret (e_and (e_isi (n := "int") B.n_isinstance (by rfl) (e_varT (pv 0)) (pe_bltn (by rfl) B.n_int (by decide +kernel) rfl)) (e_one (e_not (e_isi (n := "bool") B.n_isinstance (by rfl) (e_varT (pv 0)) (pe_bltn (by rfl) B.n_bool (by decide +kernel) rfl))))))
b_nil)
theorem ok_is_whole (B : Tx K mg) : Okd P w K mg base "is_whole" ["thing"] 1 1 false F_is_whole := def_ok B.d_is_whole sc_is_whole rfl (fun z => nomatch z) fun f cdv A outer s H E hr => bd_is_whole B hr
theorem bd_is_prime (B : Tx K mg) {f : Addr} {cdv : Value} {A : Around} {outer : List PySem.Env} {s : Shared} {H : Hp} {E : XK} (hr : Room 1 (A.deeper (envOfC "is_prime" (defScope st_is_prime) s.heap.objs.size f cdv))) :
    BJ (cxOf (L2N.CX P w) P w K mg base ["thing", "part"] "is_prime" (defScope st_is_prime) f cdv A outer s H E) (fun cls d _ H => E cls d H) false (defBody st_is_prime) D_is_prime :=
  (b_cons (s_if (t_w (w_or (t_not (t_val (e_callD (ok_is_whole B) hr (by decide) tk_of (by rfl) (a_cons (e_var (pv 0)) a_nil) (ALen.cons ALen.nil)))) (w_or (t_lt (e_varT (pv 0)) (e_s_t e_int)) (w_or1 (t_gt (e_varT (pv 0)) (e_s_t (e_glI B.c_MOST_PRIME (by rfl))))))))
(b_cons (s_ret e_bl)
b_nil)
b_nil)
(b_cons (s_ret (e_all rfl B.n_all (by rfl) (a_cons (e_f_t (e_lc (own := [("part", 1)]) rfl sc_is_prime.nd (i_rng2 B.n_range (by rfl) (a_cons (e_s_t e_int) (a_cons (e_varT (pv 0)) a_nil))) (blkOk_by (own := [("part", 1)]) (N := ["thing", "part"]) (sc := defScope st_is_prime) (by decide +kernel)) (by decide) (fun _ _ _ _ _ => (g_name (pg_name (i := 1) sc_is_prime.nd rfl (Or.inl rfl)))) (fun _ _ _ _ _ => c_nil) (fun _ _ _ _ _ => (e_ne hr.units (e_s_t (e_mod (e_varT (pv 0)) (e_varT (pv 1)))) (e_s_t e_int))))) a_nil)))
b_nil))
theorem ok_is_prime (B : Tx K mg) : Okd P w K mg base "is_prime" ["thing"] 2 1 false F_is_prime := def_ok B.d_is_prime sc_is_prime rfl (fun z => nomatch z) fun f cdv A outer s H E hr => bd_is_prime B hr
theorem bd_power_of (B : Tx K mg) {f : Addr} {cdv : Value} {A : Around} {outer : List PySem.Env} {s : Shared} {H : Hp} {E : XK} (hr : Room 0 (A.deeper (envOfC "power_of" (defScope st_power_of) s.heap.objs.size f cdv))) :
    BJ (cxOf (L2N.CX P w) P w K mg base ["p", "times", "found", "k"] "power_of" (defScope st_power_of) f cdv A outer s H E) (fun cls d _ H => E cls d H) false (defBody st_power_of) D_power_of :=
  (b_cons (s_set (i := 2) sc_power_of.nd rfl (Or.inl rfl) e_int)
(b_cons (s_for hp_of rfl (i_rng1 B.n_range (by rfl) (a_cons (e_varT (pv 1)) a_nil)) (g_name (pg_name (i := 3) sc_power_of.nd rfl (Or.inl rfl)))
(b_cons (s_augMul (i := 2) sc_power_of.nd rfl (Or.inl rfl) (e_varT (pv 0)))
b_nil))
(b_cons (s_ret (e_var (pv 2)))
b_nil)))
theorem ok_power_of (B : Tx K mg) : Okd P w K mg base "power_of" ["p", "times"] 1 2 false F_power_of := def_ok B.d_power_of sc_power_of rfl (fun z => nomatch z) fun f cdv A outer s H E hr => bd_power_of B hr
theorem bd_exponent (B : Tx K mg) {f : Addr} {cdv : Value} {A : Around} {outer : List PySem.Env} {s : Shared} {H : Hp} {E : XK} (hr : Room 0 (A.deeper (envOfC "exponent" (defScope st_exponent) s.heap.objs.size f cdv))) :
    BJ (cxOf (L2N.CX P w) P w K mg base ["p", "number", "found", "rest", "left"] "exponent" (defScope st_exponent) f cdv A outer s H E) (fun cls d _ H => E cls d H) false (defBody st_exponent) D_exponent :=
  (b_cons (s_set (i := 2) sc_exponent.nd rfl (Or.inl rfl) e_int)
(b_cons (s_to (e_divmod B.n_divmod (by rfl) (a_cons (e_varT (pv 1)) (a_cons (e_varT (pv 0)) a_nil))) (g_tup rfl (gs_cons (g_name (pg_name (i := 3) sc_exponent.nd rfl (Or.inl rfl))) (gs_cons (g_name (pg_name (i := 4) sc_exponent.nd rfl (Or.inl rfl))) gs_nil)) (gs_len (gs_len gs_len0))))
(b_cons (s_while hp_of (t_eq hr.units (e_varT (pv 4)) (e_s_t e_int))
(b_cons (s_augAdd (i := 2) sc_exponent.nd rfl (Or.inl rfl) (e_s_t e_int))
(b_cons (s_to (e_divmod B.n_divmod (by rfl) (a_cons (e_varT (pv 3)) (a_cons (e_varT (pv 0)) a_nil))) (g_tup rfl (gs_cons (g_name (pg_name (i := 3) sc_exponent.nd rfl (Or.inl rfl))) (gs_cons (g_name (pg_name (i := 4) sc_exponent.nd rfl (Or.inl rfl))) gs_nil)) (gs_len (gs_len gs_len0))))
b_nil)))
(b_cons (s_ret (e_var (pv 2)))
b_nil))))
theorem ok_exponent (B : Tx K mg) : Okd P w K mg base "exponent" ["p", "number"] 1 2 false F_exponent := def_ok B.d_exponent sc_exponent rfl (fun z => nomatch z) fun f cdv A outer s H E hr => bd_exponent B hr
theorem bd_divisor (B : Tx K mg) {f : Addr} {cdv : Value} {A : Around} {outer : List PySem.Env} {s : Shared} {H : Hp} {E : XK} (hr : Room 0 (A.deeper (envOfC "divisor" (defScope st_divisor) s.heap.objs.size f cdv))) :
    BJ (cxOf (L2N.CX P w) P w K mg base ["one", "other"] "divisor" (defScope st_divisor) f cdv A outer s H E) (fun cls d _ H => E cls d H) false (defBody st_divisor) D_divisor :=
  (b_cons (s_set (i := 0) sc_divisor.nd rfl (Or.inl rfl) (e_abs B.n_abs (by rfl) (a_cons (e_varT (pv 0)) a_nil)))
(b_cons (s_set (i := 1) sc_divisor.nd rfl (Or.inl rfl) (e_abs B.n_abs (by rfl) (a_cons (e_varT (pv 1)) a_nil)))
(b_cons (s_while hp_of (t_gt (e_varT (pv 1)) (e_s_t e_int))
(b_cons (s_par (i := 0) (j := 1) rfl sc_divisor.nd rfl rfl (by decide) rfl rfl (a_cons (e_var (pv 1)) (a_cons (e_mod (e_varT (pv 0)) (e_varT (pv 1))) a_nil)) (by rfl))
b_nil))
(b_cons (s_ret (e_var (pv 0)))
b_nil))))
theorem ok_divisor (B : Tx K mg) : Okd P w K mg base "divisor" ["one", "other"] 1 2 false F_divisor := def_ok B.d_divisor sc_divisor rfl (fun z => nomatch z) fun f cdv A outer s H E hr => bd_divisor B hr
theorem bd_fraction (B : Tx K mg) {f : Addr} {cdv : Value} {A : Around} {outer : List PySem.Env} {s : Shared} {H : Hp} {E : XK} (hr : Room 1 (A.deeper (envOfC "fraction" (defScope st_fraction) s.heap.objs.size f cdv))) :
    BJ (cxOf (L2N.CX P w) P w K mg base ["top", "bottom", "share"] "fraction" (defScope st_fraction) f cdv A outer s H E) (fun cls d _ H => E cls d H) false (defBody st_fraction) D_fraction :=
  (b_cons (s_if (t_w (w_or (t_not (t_val (e_callD (ok_is_whole B) hr (by decide) tk_of (by rfl) (a_cons (e_var (pv 0)) a_nil) (ALen.cons ALen.nil)))) (w_or (t_not (t_val (e_callD (ok_is_whole B) hr (by decide) tk_of (by rfl) (a_cons (e_var (pv 1)) a_nil) (ALen.cons ALen.nil)))) (w_or1 (t_eq hr.units (e_varT (pv 1)) (e_s_t e_int))))))
(b_cons (s_raise B.x_NoFraction.choose_spec rfl tk_of (by rfl))
b_nil)
b_nil)
(b_cons (s_set (i := 2) sc_fraction.nd rfl (Or.inl rfl) (e_callD (ok_divisor B) hr (by decide) tk_of (by rfl) (a_cons (e_var (pv 0)) (a_cons (e_var (pv 1)) a_nil)) (ALen.cons (ALen.cons ALen.nil))))
(b_cons (s_if (t_lt (e_varT (pv 1)) (e_s_t e_int))
(b_cons (s_set (i := 2) sc_fraction.nd rfl (Or.inl rfl) (e_neg (e_varT (pv 2))))
b_nil)
b_nil)
(b_cons (s_ret (e_tup (a_cons (e_fdiv (e_varT (pv 0)) (e_varT (pv 2))) (a_cons (e_fdiv (e_varT (pv 1)) (e_varT (pv 2))) a_nil))))
b_nil))))
theorem ok_fraction (B : Tx K mg) : Okd P w K mg base "fraction" ["top", "bottom"] 2 2 false F_fraction ∧ OkD1 P w K mg base "fraction" ["top", "bottom"] 2 2 false F_fraction := def_okD B.d_fraction sc_fraction rfl (fun z => nomatch z) fun f cdv A outer s H E hr => bd_fraction B hr
theorem bd_is_fraction (B : Tx K mg) {f : Addr} {cdv : Value} {A : Around} {outer : List PySem.Env} {s : Shared} {H : Hp} {E : XK} (hr : Room 1 (A.deeper (envOfC "is_fraction" (defScope st_is_fraction) s.heap.objs.size f cdv))) :
    BJ (cxOf (L2N.CX P w) P w K mg base ["thing"] "is_fraction" (defScope st_is_fraction) f cdv A outer s H E) (fun cls d _ H => E cls d H) false (defBody st_is_fraction) D_is_fraction :=
  (b_cons (s_if (t_w (w_or (t_not (t_val (e_isi (n := "tuple") B.n_isinstance (by rfl) (e_varT (pv 0)) (pe_bltn (by rfl) B.n_tuple (by decide +kernel) rfl)))) (w_or (t_ne hr.units (e_s_t (e_len B.n_len (by rfl) (a_cons (e_varT (pv 0)) a_nil))) (e_s_t e_int)) (w_or (t_not (t_val (e_callD (ok_is_whole B) hr (by decide) tk_of (by rfl) (a_cons (e_item (e_varT (pv 0)) (e_s_t e_int) (fun _ _ => rfl)) a_nil) (ALen.cons ALen.nil)))) (w_or1 (t_not (t_val (e_callD (ok_is_whole B) hr (by decide) tk_of (by rfl) (a_cons (e_item (e_varT (pv 0)) (e_s_t e_int) (fun _ _ => rfl)) a_nil) (ALen.cons ALen.nil)))))))))
(b_cons (s_ret e_bl)
b_nil)
b_nil)
(b_cons (s_ret (e_and (e_gt (e_s_t (e_item (e_varT (pv 0)) (e_s_t e_int) (fun _ _ => rfl))) (e_s_t e_int)) (e_one (e_eq hr.units (e_s_t (e_callD (ok_divisor B) hr (by decide) tk_of (by rfl) (a_cons (e_item (e_varT (pv 0)) (e_s_t e_int) (fun _ _ => rfl)) (a_cons (e_item (e_varT (pv 0)) (e_s_t e_int) (fun _ _ => rfl)) a_nil)) (ALen.cons (ALen.cons ALen.nil)))) (e_s_t e_int)))))
b_nil))
theorem ok_is_fraction (B : Tx K mg) : Okd P w K mg base "is_fraction" ["thing"] 2 1 false F_is_fraction := def_ok B.d_is_fraction sc_is_fraction rfl (fun z => nomatch z) fun f cdv A outer s H E hr => bd_is_fraction B hr
theorem bd_plus_fraction (B : Tx K mg) {f : Addr} {cdv : Value} {A : Around} {outer : List PySem.Env} {s : Shared} {H : Hp} {E : XK} (hr : Room 2 (A.deeper (envOfC "plus_fraction" (defScope st_plus_fraction) s.heap.objs.size f cdv))) :
    BJ (cxOf (L2N.CX P w) P w K mg base ["one", "other"] "plus_fraction" (defScope st_plus_fraction) f cdv A outer s H E) (fun cls d _ H => E cls d H) false (defBody st_plus_fraction) D_plus_fraction :=
  (b_cons (s_ret (e_callD (ok_fraction B).1 hr (by decide) tk_of (by rfl) (a_cons (e_add (e_s_t (e_mul (e_s_t (e_item (e_varT (pv 0)) (e_s_t e_int) (fun _ _ => rfl))) (e_s_t (e_item (e_varT (pv 1)) (e_s_t e_int) (fun _ _ => rfl))))) (e_s_t (e_mul (e_s_t (e_item (e_varT (pv 1)) (e_s_t e_int) (fun _ _ => rfl))) (e_s_t (e_item (e_varT (pv 0)) (e_s_t e_int) (fun _ _ => rfl)))))) (a_cons (e_mul (e_s_t (e_item (e_varT (pv 0)) (e_s_t e_int) (fun _ _ => rfl))) (e_s_t (e_item (e_varT (pv 1)) (e_s_t e_int) (fun _ _ => rfl)))) a_nil)) (ALen.cons (ALen.cons ALen.nil))))
b_nil)
theorem ok_plus_fraction (B : Tx K mg) : Okd P w K mg base "plus_fraction" ["one", "other"] 3 2 false F_plus_fraction := def_ok B.d_plus_fraction sc_plus_fraction rfl (fun z => nomatch z) fun f cdv A outer s H E hr => bd_plus_fraction B hr
theorem bd_minus_fraction (B : Tx K mg) {f : Addr} {cdv : Value} {A : Around} {outer : List PySem.Env} {s : Shared} {H : Hp} {E : XK} (hr : Room 2 (A.deeper (envOfC "minus_fraction" (defScope st_minus_fraction) s.heap.objs.size f cdv))) :
    BJ (cxOf (L2N.CX P w) P w K mg base ["one", "other"] "minus_fraction" (defScope st_minus_fraction) f cdv A outer s H E) (fun cls d _ H => E cls d H) false (defBody st_minus_fraction) D_minus_fraction :=
  (b_cons (s_ret (e_callD (ok_fraction B).1 hr (by decide) tk_of (by rfl) (a_cons (e_sub (e_s_t (e_mul (e_s_t (e_item (e_varT (pv 0)) (e_s_t e_int) (fun _ _ => rfl))) (e_s_t (e_item (e_varT (pv 1)) (e_s_t e_int) (fun _ _ => rfl))))) (e_s_t (e_mul (e_s_t (e_item (e_varT (pv 1)) (e_s_t e_int) (fun _ _ => rfl))) (e_s_t (e_item (e_varT (pv 0)) (e_s_t e_int) (fun _ _ => rfl)))))) (a_cons (e_mul (e_s_t (e_item (e_varT (pv 0)) (e_s_t e_int) (fun _ _ => rfl))) (e_s_t (e_item (e_varT (pv 1)) (e_s_t e_int) (fun _ _ => rfl)))) a_nil)) (ALen.cons (ALen.cons ALen.nil))))
b_nil)
theorem ok_minus_fraction (B : Tx K mg) : Okd P w K mg base "minus_fraction" ["one", "other"] 3 2 false F_minus_fraction := def_ok B.d_minus_fraction sc_minus_fraction rfl (fun z => nomatch z) fun f cdv A outer s H E hr => bd_minus_fraction B hr
theorem bd_times_fraction (B : Tx K mg) {f : Addr} {cdv : Value} {A : Around} {outer : List PySem.Env} {s : Shared} {H : Hp} {E : XK} (hr : Room 2 (A.deeper (envOfC "times_fraction" (defScope st_times_fraction) s.heap.objs.size f cdv))) :
    BJ (cxOf (L2N.CX P w) P w K mg base ["one", "other"] "times_fraction" (defScope st_times_fraction) f cdv A outer s H E) (fun cls d _ H => E cls d H) false (defBody st_times_fraction) D_times_fraction :=
  (b_cons (s_ret (e_callD (ok_fraction B).1 hr (by decide) tk_of (by rfl) (a_cons (e_mul (e_s_t (e_item (e_varT (pv 0)) (e_s_t e_int) (fun _ _ => rfl))) (e_s_t (e_item (e_varT (pv 1)) (e_s_t e_int) (fun _ _ => rfl)))) (a_cons (e_mul (e_s_t (e_item (e_varT (pv 0)) (e_s_t e_int) (fun _ _ => rfl))) (e_s_t (e_item (e_varT (pv 1)) (e_s_t e_int) (fun _ _ => rfl)))) a_nil)) (ALen.cons (ALen.cons ALen.nil))))
b_nil)
theorem ok_times_fraction (B : Tx K mg) : Okd P w K mg base "times_fraction" ["one", "other"] 3 2 false F_times_fraction := def_ok B.d_times_fraction sc_times_fraction rfl (fun z => nomatch z) fun f cdv A outer s H E hr => bd_times_fraction B hr
theorem bd_over_fraction (B : Tx K mg) {f : Addr} {cdv : Value} {A : Around} {outer : List PySem.Env} {s : Shared} {H : Hp} {E : XK} (hr : Room 2 (A.deeper (envOfC "over_fraction" (defScope st_over_fraction) s.heap.objs.size f cdv))) :
    BJ (cxOf (L2N.CX P w) P w K mg base ["one", "other"] "over_fraction" (defScope st_over_fraction) f cdv A outer s H E) (fun cls d _ H => E cls d H) false (defBody st_over_fraction) D_over_fraction :=
  (b_cons (s_ret (e_callD (ok_fraction B).1 hr (by decide) tk_of (by rfl) (a_cons (e_mul (e_s_t (e_item (e_varT (pv 0)) (e_s_t e_int) (fun _ _ => rfl))) (e_s_t (e_item (e_varT (pv 1)) (e_s_t e_int) (fun _ _ => rfl)))) (a_cons (e_mul (e_s_t (e_item (e_varT (pv 0)) (e_s_t e_int) (fun _ _ => rfl))) (e_s_t (e_item (e_varT (pv 1)) (e_s_t e_int) (fun _ _ => rfl)))) a_nil)) (ALen.cons (ALen.cons ALen.nil))))
b_nil)
theorem ok_over_fraction (B : Tx K mg) : Okd P w K mg base "over_fraction" ["one", "other"] 3 2 false F_over_fraction := def_ok B.d_over_fraction sc_over_fraction rfl (fun z => nomatch z) fun f cdv A outer s H E hr => bd_over_fraction B hr
theorem bd_exponent_of (B : Tx K mg) {f : Addr} {cdv : Value} {A : Around} {outer : List PySem.Env} {s : Shared} {H : Hp} {E : XK} (hr : Room 1 (A.deeper (envOfC "exponent_of" (defScope st_exponent_of) s.heap.objs.size f cdv))) :
    BJ (cxOf (L2N.CX P w) P w K mg base ["p", "one"] "exponent_of" (defScope st_exponent_of) f cdv A outer s H E) (fun cls d _ H => E cls d H) false (defBody st_exponent_of) D_exponent_of :=
  (b_cons (s_ret (e_sub (e_s_t (e_callD (ok_exponent B) hr (by decide) tk_of (by rfl) (a_cons (e_var (pv 0)) (a_cons (e_item (e_varT (pv 1)) (e_s_t e_int) (fun _ _ => rfl)) a_nil)) (ALen.cons (ALen.cons ALen.nil)))) (e_s_t (e_callD (ok_exponent B) hr (by decide) tk_of (by rfl) (a_cons (e_var (pv 0)) (a_cons (e_item (e_varT (pv 1)) (e_s_t e_int) (fun _ _ => rfl)) a_nil)) (ALen.cons (ALen.cons ALen.nil))))))
b_nil)
theorem ok_exponent_of (B : Tx K mg) : Okd P w K mg base "exponent_of" ["p", "one"] 2 2 false F_exponent_of := def_ok B.d_exponent_of sc_exponent_of rfl (fun z => nomatch z) fun f cdv A outer s H E hr => bd_exponent_of B hr
theorem bd_are_figures (B : Tx K mg) {f : Addr} {cdv : Value} {A : Around} {outer : List PySem.Env} {s : Shared} {H : Hp} {E : XK} (hr : Room 1 (A.deeper (envOfC "are_figures" (defScope st_are_figures) s.heap.objs.size f cdv))) :
    BJ (cxOf (L2N.CX P w) P w K mg base ["p", "figures", "one"] "are_figures" (defScope st_are_figures) f cdv A outer s H E) (fun cls d _ H => E cls d H) false (defBody st_are_figures) D_are_figures :=
  (b_cons (s_if (t_not (t_val (e_isi2 (n := "list") (m := "tuple") B.n_isinstance (by rfl) (e_varT (pv 1)) (pe_bltn (by rfl) B.n_list (by decide +kernel) rfl) (pe_bltn (by rfl) B.n_tuple (by decide +kernel) rfl))))
(b_cons (s_ret e_bl)
b_nil)
b_nil)
(b_cons (s_ret (e_all rfl B.n_all (by rfl) (a_cons (e_f_t (e_lc (own := [("one", 2)]) rfl sc_are_figures.nd (i_seq (e_var (pv 1))) (blkOk_by (own := [("one", 2)]) (N := ["p", "figures", "one"]) (sc := defScope st_are_figures) (by decide +kernel)) (by decide) (fun _ _ _ _ _ => (g_name (pg_name (i := 2) sc_are_figures.nd rfl (Or.inl rfl)))) (fun _ _ _ _ _ => c_nil) (fun _ _ _ _ _ => (e_and (e_callD (ok_is_whole B) hr (by decide) takesN (by rfl) (a_cons (e_var (pv 2)) a_nil) (ALen.cons ALen.nil)) (e_one (e_leLt (e_s_t e_int) (e_varT (pv 2)) (e_varT (pv 0)))))))) a_nil)))
b_nil))
theorem ok_are_figures (B : Tx K mg) : Okd P w K mg base "are_figures" ["p", "figures"] 2 2 false F_are_figures := def_ok B.d_are_figures sc_are_figures rfl (fun z => nomatch z) fun f cdv A outer s H E hr => bd_are_figures B hr
theorem bd_left_number (B : Tx K mg) {f : Addr} {cdv : Value} {A : Around} {outer : List PySem.Env} {s : Shared} {H : Hp} {E : XK} (hr : Room 2 (A.deeper (envOfC "left_number" (defScope st_left_number) s.heap.objs.size f cdv))) :
    BJ (cxOf (L2N.CX P w) P w K mg base ["p", "least", "figures", "noughts"] "left_number" (defScope st_left_number) f cdv A outer s H E) (fun cls d _ H => E cls d H) false (defBody st_left_number) D_left_number :=
  (b_cons (s_if (t_not (t_val (e_callD (ok_is_prime B) hr (by decide) tk_of (by rfl) (a_cons (e_var (pv 0)) a_nil) (ALen.cons ALen.nil))))
(b_cons (s_raise B.x_NoPrime.choose_spec rfl tk_of (by rfl))
b_nil)
b_nil)
(b_cons (s_if (t_not (t_val (e_callD (ok_is_whole B) hr (by decide) tk_of (by rfl) (a_cons (e_var (pv 1)) a_nil) (ALen.cons ALen.nil))))
(b_cons (s_raise B.x_NoPlace.choose_spec rfl tk_of (by rfl))
b_nil)
b_nil)
(b_cons (s_if (t_not (t_val (e_callD (ok_are_figures B) hr (by decide) tk_of (by rfl) (a_cons (e_var (pv 0)) (a_cons (e_var (pv 2)) a_nil)) (ALen.cons (ALen.cons ALen.nil)))))
(b_cons (s_raise B.x_NoFigures.choose_spec rfl tk_of (by rfl))
b_nil)
b_nil)
(b_cons (s_set (i := 3) sc_left_number.nd rfl (Or.inl rfl) e_int)
(b_cons (s_while hp_of (t_w (w_and (t_lt (e_varT (pv 3)) (e_s_t (e_len B.n_len (by rfl) (a_cons (e_varT (pv 2)) a_nil)))) (w_and1 (t_eq hr.units (e_s_t (e_item (e_varT (pv 2)) (e_varT (pv 3)) (fun _ _ => rfl))) (e_s_t e_int)))))
(b_cons (s_augAdd (i := 3) sc_left_number.nd rfl (Or.inl rfl) (e_s_t e_int))
b_nil))
(b_cons (s_ret (e_tup (a_cons (e_var (pv 0)) (a_cons (e_add (e_varT (pv 1)) (e_varT (pv 3))) (a_cons (e_tuple B.n_tuple (by rfl) (a_cons (e_s_t (e_slice (e_varT (pv 2)) (o_some (e_var (pv 3))) o_none)) a_nil)) a_nil)))))
b_nil))))))
theorem ok_left_number (B : Tx K mg) : Okd P w K mg base "left_number" ["p", "least", "figures"] 3 3 false F_left_number := def_ok B.d_left_number sc_left_number rfl (fun z => nomatch z) fun f cdv A outer s H E hr => bd_left_number B hr
theorem bd_is_left (B : Tx K mg) {f : Addr} {cdv : Value} {A : Around} {outer : List PySem.Env} {s : Shared} {H : Hp} {E : XK} (hr : Room 2 (A.deeper (envOfC "is_left" (defScope st_is_left) s.heap.objs.size f cdv))) :
    BJ (cxOf (L2N.CX P w) P w K mg base ["thing"] "is_left" (defScope st_is_left) f cdv A outer s H E) (fun cls d _ H => E cls d H) false (defBody st_is_left) D_is_left :=
  (b_cons (s_if (t_w (w_or (t_not (t_val (e_isi (n := "tuple") B.n_isinstance (by rfl) (e_varT (pv 0)) (pe_bltn (by rfl) B.n_tuple (by decide +kernel) rfl)))) (w_or (t_ne hr.units (e_s_t (e_len B.n_len (by rfl) (a_cons (e_varT (pv 0)) a_nil))) (e_s_t e_int)) (w_or1 (t_not (t_val (e_isi (n := "tuple") B.n_isinstance (by rfl) (e_s_t (e_item (e_varT (pv 0)) (e_s_t e_int) (fun _ _ => rfl))) (pe_bltn (by rfl) B.n_tuple (by decide +kernel) rfl))))))))
(b_cons (s_ret e_bl)
b_nil)
b_nil)
(b_cons (s_if (t_w (w_or (t_not (t_val (e_callD (ok_is_prime B) hr (by decide) tk_of (by rfl) (a_cons (e_item (e_varT (pv 0)) (e_s_t e_int) (fun _ _ => rfl)) a_nil) (ALen.cons ALen.nil)))) (w_or (t_not (t_val (e_callD (ok_is_whole B) hr (by decide) tk_of (by rfl) (a_cons (e_item (e_varT (pv 0)) (e_s_t e_int) (fun _ _ => rfl)) a_nil) (ALen.cons ALen.nil)))) (w_or1 (t_not (t_val (e_callD (ok_are_figures B) hr (by decide) tk_of (by rfl) (a_cons (e_item (e_varT (pv 0)) (e_s_t e_int) (fun _ _ => rfl)) (a_cons (e_item (e_varT (pv 0)) (e_s_t e_int) (fun _ _ => rfl)) a_nil)) (ALen.cons (ALen.cons ALen.nil)))))))))
(b_cons (s_ret e_bl)
b_nil)
b_nil)
(b_cons (s_ret (e_or (e_eq hr.units (e_s_t (e_item (e_varT (pv 0)) (e_s_t e_int) (fun _ _ => rfl))) (e_s_t (e_tup a_nil))) (e_one (e_ne hr.units (e_s_t (e_item (e_s_t (e_item (e_varT (pv 0)) (e_s_t e_int) (fun _ _ => rfl))) (e_s_t e_int) (fun _ _ => rfl))) (e_s_t e_int)))))
b_nil)))
theorem ok_is_left (B : Tx K mg) : Okd P w K mg base "is_left" ["thing"] 3 1 false F_is_left := def_ok B.d_is_left sc_is_left rfl (fun z => nomatch z) fun f cdv A outer s H E hr => bd_is_left B hr
theorem bd_end_of (B : Tx K mg) {f : Addr} {cdv : Value} {A : Around} {outer : List PySem.Env} {s : Shared} {H : Hp} {E : XK} (hr : Room 0 (A.deeper (envOfC "end_of" (defScope st_end_of) s.heap.objs.size f cdv))) :
    BJ (cxOf (L2N.CX P w) P w K mg base ["one"] "end_of" (defScope st_end_of) f cdv A outer s H E) (fun cls d _ H => E cls d H) false (defBody st_end_of) D_end_of :=
  (b_cons (s_ret (e_add (e_s_t (e_item (e_varT (pv 0)) (e_s_t e_int) (fun _ _ => rfl))) (e_s_t (e_len B.n_len (by rfl) (a_cons (e_s_t (e_item (e_varT (pv 0)) (e_s_t e_int) (fun _ _ => rfl))) a_nil)))))
b_nil)
theorem ok_end_of (B : Tx K mg) : Okd P w K mg base "end_of" ["one"] 1 1 false F_end_of := def_ok B.d_end_of sc_end_of rfl (fun z => nomatch z) fun f cdv A outer s H E hr => bd_end_of B hr
theorem bd_known_of (B : Tx K mg) {f : Addr} {cdv : Value} {A : Around} {outer : List PySem.Env} {s : Shared} {H : Hp} {E : XK} (hr : Room 0 (A.deeper (envOfC "known_of" (defScope st_known_of) s.heap.objs.size f cdv))) :
    BJ (cxOf (L2N.CX P w) P w K mg base ["one"] "known_of" (defScope st_known_of) f cdv A outer s H E) (fun cls d _ H => E cls d H) false (defBody st_known_of) D_known_of :=
  (b_cons (s_ret (e_len B.n_len (by rfl) (a_cons (e_s_t (e_item (e_varT (pv 0)) (e_s_t e_int) (fun _ _ => rfl))) a_nil)))
b_nil)
theorem ok_known_of (B : Tx K mg) : Okd P w K mg base "known_of" ["one"] 1 1 false F_known_of := def_ok B.d_known_of sc_known_of rfl (fun z => nomatch z) fun f cdv A outer s H E hr => bd_known_of B hr
theorem bd_unit_of (B : Tx K mg) {f : Addr} {cdv : Value} {A : Around} {outer : List PySem.Env} {s : Shared} {H : Hp} {E : XK} (hr : Room 0 (A.deeper (envOfC "unit_of" (defScope st_unit_of) s.heap.objs.size f cdv))) :
    BJ (cxOf (L2N.CX P w) P w K mg base ["one", "found", "digit"] "unit_of" (defScope st_unit_of) f cdv A outer s H E) (fun cls d _ H => E cls d H) false (defBody st_unit_of) D_unit_of :=
  (b_cons (s_set (i := 1) sc_unit_of.nd rfl (Or.inl rfl) e_int)
(b_cons (s_for hp_of rfl (i_rev B.n_reversed (by rfl) (e_item (e_varT (pv 0)) (e_s_t e_int) (fun _ _ => rfl))) (g_name (pg_name (i := 2) sc_unit_of.nd rfl (Or.inl rfl)))
(b_cons (s_set (i := 1) sc_unit_of.nd rfl (Or.inl rfl) (e_add (e_s_t (e_mul (e_varT (pv 1)) (e_s_t (e_item (e_varT (pv 0)) (e_s_t e_int) (fun _ _ => rfl))))) (e_varT (pv 2))))
b_nil))
(b_cons (s_ret (e_var (pv 1)))
b_nil)))
theorem ok_unit_of (B : Tx K mg) : Okd P w K mg base "unit_of" ["one"] 1 1 false F_unit_of := def_ok B.d_unit_of sc_unit_of rfl (fun z => nomatch z) fun f cdv A outer s H E hr => bd_unit_of B hr
theorem bd_of_whole (B : Tx K mg) {f : Addr} {cdv : Value} {A : Around} {outer : List PySem.Env} {s : Shared} {H : Hp} {E : XK} (hr : Room 3 (A.deeper (envOfC "of_whole" (defScope st_of_whole) s.heap.objs.size f cdv))) :
    BJ (cxOf (L2N.CX P w) P w K mg base ["p", "least", "number", "many", "figures", "k", "digit"] "of_whole" (defScope st_of_whole) f cdv A outer s H E) (fun cls d _ H => E cls d H) false (defBody st_of_whole) D_of_whole :=
  (b_cons (s_setO (i := 4) sc_of_whole.nd rfl (Or.inl rfl) (e_lst a_nil))
(b_cons (s_for hp_of rfl (i_rng1 B.n_range (by rfl) (a_cons (e_varT (pv 3)) a_nil)) (g_name (pg_name (i := 5) sc_of_whole.nd rfl (Or.inl rfl)))
(b_cons (s_to (e_divmod B.n_divmod (by rfl) (a_cons (e_varT (pv 2)) (a_cons (e_varT (pv 0)) a_nil))) (g_tup rfl (gs_cons (g_name (pg_name (i := 2) sc_of_whole.nd rfl (Or.inl rfl))) (gs_cons (g_name (pg_name (i := 6) sc_of_whole.nd rfl (Or.inl rfl))) gs_nil)) (gs_len (gs_len gs_len0))))
(b_cons (s_app (i := 4) (pv 4) (e_var (pv 6)))
b_nil)))
(s_frz (i := 4) (b_cons (s_ret (e_callD (ok_left_number B) hr (by decide) tk_of (by rfl) (a_cons (e_var (pv 0)) (a_cons (e_var (pv 1)) (a_cons (e_var (pv 4)) a_nil))) (ALen.cons (ALen.cons (ALen.cons ALen.nil)))))
b_nil))))
theorem ok_of_whole (B : Tx K mg) : Okd P w K mg base "of_whole" ["p", "least", "number", "many"] 4 4 false F_of_whole := def_ok B.d_of_whole sc_of_whole rfl (fun z => nomatch z) fun f cdv A outer s H E hr => bd_of_whole B hr
theorem bd_want_alike (B : Tx K mg) {f : Addr} {cdv : Value} {A : Around} {outer : List PySem.Env} {s : Shared} {H : Hp} {E : XK} (hr : Room 0 (A.deeper (envOfC "want_alike" (defScope st_want_alike) s.heap.objs.size f cdv))) :
    BJ (cxOf (L2N.CX P w) P w K mg base ["one", "other"] "want_alike" (defScope st_want_alike) f cdv A outer s H E) (fun cls d _ H => E cls d H) false (defBody st_want_alike) D_want_alike :=
  (b_cons (s_if (t_ne hr.units (e_s_t (e_item (e_varT (pv 0)) (e_s_t e_int) (fun _ _ => rfl))) (e_s_t (e_item (e_varT (pv 1)) (e_s_t e_int) (fun _ _ => rfl))))
(b_cons (s_raise B.x_Unlike.choose_spec rfl tk_of (by rfl))
b_nil)
b_nil)
b_nil)
theorem ok_want_alike (B : Tx K mg) : Okd P w K mg base "want_alike" ["one", "other"] 1 2 false F_want_alike := def_ok B.d_want_alike sc_want_alike rfl (fun z => nomatch z) fun f cdv A outer s H E hr => bd_want_alike B hr
theorem bd_cut_at (B : Tx K mg) {f : Addr} {cdv : Value} {A : Around} {outer : List PySem.Env} {s : Shared} {H : Hp} {E : XK} (hr : Room 3 (A.deeper (envOfC "cut_at" (defScope st_cut_at) s.heap.objs.size f cdv))) :
    BJ (cxOf (L2N.CX P w) P w K mg base ["one", "place"] "cut_at" (defScope st_cut_at) f cdv A outer s H E) (fun cls d _ H => E cls d H) false (defBody st_cut_at) D_cut_at :=
  (b_cons (s_if (t_ge (e_varT (pv 1)) (e_s_t (e_callD (ok_end_of B) hr (by decide) tk_of (by rfl) (a_cons (e_var (pv 0)) a_nil) (ALen.cons ALen.nil))))
(b_cons (s_ret (e_var (pv 0)))
b_nil)
b_nil)
(b_cons (s_if (t_le (e_varT (pv 1)) (e_s_t (e_item (e_varT (pv 0)) (e_s_t e_int) (fun _ _ => rfl))))
(b_cons (s_ret (e_callD (ok_left_number B) hr (by decide) tk_of (by rfl) (a_cons (e_item (e_varT (pv 0)) (e_s_t e_int) (fun _ _ => rfl)) (a_cons (e_var (pv 1)) (a_cons (e_tup a_nil) a_nil))) (ALen.cons (ALen.cons (ALen.cons ALen.nil)))))
b_nil)
b_nil)
(b_cons (s_ret (e_callD (ok_left_number B) hr (by decide) tk_of (by rfl) (a_cons (e_item (e_varT (pv 0)) (e_s_t e_int) (fun _ _ => rfl)) (a_cons (e_item (e_varT (pv 0)) (e_s_t e_int) (fun _ _ => rfl)) (a_cons (e_slice (e_s_t (e_item (e_varT (pv 0)) (e_s_t e_int) (fun _ _ => rfl))) o_none (o_some (e_sub (e_varT (pv 1)) (e_s_t (e_item (e_varT (pv 0)) (e_s_t e_int) (fun _ _ => rfl)))))) a_nil))) (ALen.cons (ALen.cons (ALen.cons ALen.nil)))))
b_nil)))
theorem ok_cut_at (B : Tx K mg) : Okd P w K mg base "cut_at" ["one", "place"] 4 2 false F_cut_at := def_ok B.d_cut_at sc_cut_at rfl (fun z => nomatch z) fun f cdv A outer s H E hr => bd_cut_at B hr
theorem bd_bared (B : Tx K mg) {f : Addr} {cdv : Value} {A : Around} {outer : List PySem.Env} {s : Shared} {H : Hp} {E : XK} (hr : Room 1 (A.deeper (envOfC "bared" (defScope st_bared) s.heap.objs.size f cdv))) :
    BJ (cxOf (L2N.CX P w) P w K mg base ["p", "part", "number"] "bared" (defScope st_bared) f cdv A outer s H E) (fun cls d _ H => E cls d H) true (defBody st_bared) D_bared :=
  (b_cons (s_retF (e_lc (own := [("number", 2)]) rfl sc_bared.nd (i_seq (e_var (pv 1))) (blkOk_by (own := [("number", 2)]) (N := ["p", "part", "number"]) (sc := defScope st_bared) (by decide +kernel)) (by decide) (fun _ _ _ _ _ => (g_name (pg_name (i := 2) sc_bared.nd rfl (Or.inl rfl)))) (fun _ _ _ _ _ => c_nil) (fun _ _ _ _ _ => (e_fdiv (e_varT (pv 2)) (e_s_t (e_callD (ok_power_of B) hr (by decide) takesN (by rfl) (a_cons (e_var (pv 0)) (a_cons (e_callD (ok_exponent B) hr (by decide) takesN (by rfl) (a_cons (e_var (pv 0)) (a_cons (e_var (pv 2)) a_nil)) (ALen.cons (ALen.cons ALen.nil))) a_nil)) (ALen.cons (ALen.cons ALen.nil))))))))
b_nil)
theorem ok_bared (B : Tx K mg) : Okd P w K mg base "bared" ["p", "part"] 2 2 true F_bared := def_ok B.d_bared sc_bared rfl (fun _ => (nn_seqL (nn_ret _))) fun f cdv A outer s H E hr => bd_bared B hr
theorem bd_figures_of (B : Tx K mg) {f : Addr} {cdv : Value} {A : Around} {outer : List PySem.Env} {s : Shared} {H : Hp} {E : XK} (hr : Room 0 (A.deeper (envOfC "figures_of" (defScope st_figures_of) s.heap.objs.size f cdv))) :
    BJ (cxOf (L2N.CX P w) P w K mg base ["p", "top", "bottom", "many", "over", "figures", "k", "figure", "one"] "figures_of" (defScope st_figures_of) f cdv A outer s H E) (fun cls d _ H => E cls d H) true (defBody st_figures_of) D_figures_of :=
  (b_cons (s_set (i := 4) sc_figures_of.nd rfl (Or.inl rfl) (e_item (e_f_t (e_lc (own := [("one", 8)]) rfl sc_figures_of.nd (i_rng1 B.n_range (by rfl) (a_cons (e_varT (pv 0)) a_nil)) (blkOk_by (own := [("one", 8)]) (N := ["p", "top", "bottom", "many", "over", "figures", "k", "figure", "one"]) (sc := defScope st_figures_of) (by decide +kernel)) (by decide) (fun _ _ _ _ _ => (g_name (pg_name (i := 8) sc_figures_of.nd rfl (Or.inl rfl)))) (fun _ _ _ _ _ => (c_one (t_eq hr.units (e_s_t (e_mod (e_s_t (e_mul (e_varT (pv 2)) (e_varT (pv 8)))) (e_varT (pv 0)))) (e_s_t e_int)))) (fun _ _ _ _ _ => (e_var (pv 8))))) (e_s_t e_int) (fun _ _ => rfl)))
(b_cons (s_setO (i := 5) sc_figures_of.nd rfl (Or.inl rfl) (e_lst a_nil))
(b_cons (s_for hp_of rfl (i_rng1 B.n_range (by rfl) (a_cons (e_varT (pv 3)) a_nil)) (g_name (pg_name (i := 6) sc_figures_of.nd rfl (Or.inl rfl)))
(b_cons (s_set (i := 7) sc_figures_of.nd rfl (Or.inl rfl) (e_mod (e_s_t (e_mul (e_varT (pv 1)) (e_varT (pv 4)))) (e_varT (pv 0))))
(b_cons (s_app (i := 5) (pv 5) (e_var (pv 7)))
(b_cons (s_set (i := 1) sc_figures_of.nd rfl (Or.inl rfl) (e_fdiv (e_s_t (e_sub (e_varT (pv 1)) (e_s_t (e_mul (e_varT (pv 7)) (e_varT (pv 2)))))) (e_varT (pv 0))))
b_nil))))
(b_cons (s_retO (i := 5) (pv 5))
b_nil))))
theorem ok_figures_of (B : Tx K mg) : Okd P w K mg base "figures_of" ["p", "top", "bottom", "many"] 1 4 true F_figures_of := def_ok B.d_figures_of sc_figures_of rfl (fun _ => (nn_seqR (nn_seqR (nn_seqR (nn_seqL (nn_retO _)))))) fun f cdv A outer s H E hr => bd_figures_of B hr
theorem bd_seen_left (B : Tx K mg) {f : Addr} {cdv : Value} {A : Around} {outer : List PySem.Env} {s : Shared} {H : Hp} {E : XK} (hr : Room 3 (A.deeper (envOfC "seen_left" (defScope st_seen_left) s.heap.objs.size f cdv))) :
    BJ (cxOf (L2N.CX P w) P w K mg base ["p", "part", "place", "least", "top", "bottom"] "seen_left" (defScope st_seen_left) f cdv A outer s H E) (fun cls d _ H => E cls d H) false (defBody st_seen_left) D_seen_left :=
  (b_cons (s_if (t_not (t_val (e_callD (ok_is_prime B) hr (by decide) tk_of (by rfl) (a_cons (e_var (pv 0)) a_nil) (ALen.cons ALen.nil))))
(b_cons (s_raise B.x_NoPrime.choose_spec rfl tk_of (by rfl))
b_nil)
b_nil)
(b_cons (s_if (t_not (t_val (e_callD (ok_is_whole B) hr (by decide) tk_of (by rfl) (a_cons (e_var (pv 2)) a_nil) (ALen.cons ALen.nil))))
(b_cons (s_raise B.x_NoPlace.choose_spec rfl tk_of (by rfl))
b_nil)
b_nil)
(b_cons (s_if (t_not (t_val (e_callD (ok_is_fraction B) hr (by decide) tk_of (by rfl) (a_cons (e_var (pv 1)) a_nil) (ALen.cons ALen.nil))))
(b_cons (s_raise B.x_NoFraction.choose_spec rfl tk_of (by rfl))
b_nil)
b_nil)
(b_cons (s_if (t_w (w_or (t_eq hr.units (e_s_t (e_item (e_varT (pv 1)) (e_s_t e_int) (fun _ _ => rfl))) (e_s_t e_int)) (w_or1 (t_ge (e_s_t (e_callD (ok_exponent_of B) hr (by decide) tk_of (by rfl) (a_cons (e_var (pv 0)) (a_cons (e_var (pv 1)) a_nil)) (ALen.cons (ALen.cons ALen.nil)))) (e_varT (pv 2))))))
(b_cons (s_ret (e_callD (ok_left_number B) hr (by decide) tk_of (by rfl) (a_cons (e_var (pv 0)) (a_cons (e_var (pv 2)) (a_cons (e_tup a_nil) a_nil))) (ALen.cons (ALen.cons (ALen.cons ALen.nil)))))
b_nil)
b_nil)
(b_cons (s_set (i := 3) sc_seen_left.nd rfl (Or.inl rfl) (e_callD (ok_exponent_of B) hr (by decide) tk_of (by rfl) (a_cons (e_var (pv 0)) (a_cons (e_var (pv 1)) a_nil)) (ALen.cons (ALen.cons ALen.nil))))
(b_cons (s_to (e_f_s (e_callD (ok_bared B) hr (by decide) tk_of (by rfl) (a_cons (e_var (pv 0)) (a_cons (e_var (pv 1)) a_nil)) (ALen.cons (ALen.cons ALen.nil)))) (g_tup rfl (gs_cons (g_name (pg_name (i := 4) sc_seen_left.nd rfl (Or.inl rfl))) (gs_cons (g_name (pg_name (i := 5) sc_seen_left.nd rfl (Or.inl rfl))) gs_nil)) (gs_len (gs_len gs_len0))))
(b_cons (s_ret (e_callD (ok_left_number B) hr (by decide) tk_of (by rfl) (a_cons (e_var (pv 0)) (a_cons (e_var (pv 3)) (a_cons (e_f_s (e_callD (ok_figures_of B) hr (by decide) tk_of (by rfl) (a_cons (e_var (pv 0)) (a_cons (e_var (pv 4)) (a_cons (e_var (pv 5)) (a_cons (e_sub (e_varT (pv 2)) (e_varT (pv 3))) a_nil)))) (ALen.cons (ALen.cons (ALen.cons (ALen.cons ALen.nil)))))) a_nil))) (ALen.cons (ALen.cons (ALen.cons ALen.nil)))))
b_nil)))))))
theorem ok_seen_left (B : Tx K mg) : Okd P w K mg base "seen_left" ["p", "part", "place"] 4 3 false F_seen_left := def_ok B.d_seen_left sc_seen_left rfl (fun z => nomatch z) fun f cdv A outer s H E hr => bd_seen_left B hr
theorem bd_Part_seen_by (B : Tx K mg) {n : Nat} {f : Addr} {cdv : Value} {A : Around} {outer : List PySem.Env} {s : Shared} {H : Hp} {E : XK} (hr : Room (7 + n) (A.deeper (envOfC "Part.seen_by" (defScope st_Part_seen_by) s.heap.objs.size f cdv))) :
    BJ (cxOf (L2N.CX P w) P w K mg base ["self", "p", "place"] "Part.seen_by" (defScope st_Part_seen_by) f cdv A outer s H E) (fun cls d _ H => E cls d H) false (defBody st_Part_seen_by) (D_Part_seen_by (addrOf mg)) :=
  (b_cons (s_ret (e_callD (ok_seen_left B) hr (by omega) tk_of (by rfl) (a_cons (e_var (pv 1)) (a_cons (e_fld (by decide) (e_var (pv 0))) (a_cons (e_var (pv 2)) a_nil))) (ALen.cons (ALen.cons (ALen.cons ALen.nil)))))
b_nil)
theorem bd_plus (B : Tx K mg) {f : Addr} {cdv : Value} {A : Around} {outer : List PySem.Env} {s : Shared} {H : Hp} {E : XK} (hr : Room 4 (A.deeper (envOfC "plus" (defScope st_plus) s.heap.objs.size f cdv))) :
    BJ (cxOf (L2N.CX P w) P w K mg base ["one", "other", "last", "first", "second", "least", "number"] "plus" (defScope st_plus) f cdv A outer s H E) (fun cls d _ H => E cls d H) false (defBody st_plus) D_plus :=
  (b_cons (s_expr (e_callD (ok_want_alike B) hr (by decide) tk_of (by rfl) (a_cons (e_var (pv 0)) (a_cons (e_var (pv 1)) a_nil)) (ALen.cons (ALen.cons ALen.nil))))
(b_cons (s_set (i := 2) sc_plus.nd rfl (Or.inl rfl) (e_min2 rfl B.n_min (by rfl) (a_cons (e_s_t (e_callD (ok_end_of B) hr (by decide) tk_of (by rfl) (a_cons (e_var (pv 0)) a_nil) (ALen.cons ALen.nil))) (a_cons (e_s_t (e_callD (ok_end_of B) hr (by decide) tk_of (by rfl) (a_cons (e_var (pv 1)) a_nil) (ALen.cons ALen.nil))) a_nil))))
(b_cons (s_set (i := 3) sc_plus.nd rfl (Or.inl rfl) (e_callD (ok_cut_at B) hr (by decide) tk_of (by rfl) (a_cons (e_var (pv 0)) (a_cons (e_var (pv 2)) a_nil)) (ALen.cons (ALen.cons ALen.nil))))
(b_cons (s_set (i := 4) sc_plus.nd rfl (Or.inl rfl) (e_callD (ok_cut_at B) hr (by decide) tk_of (by rfl) (a_cons (e_var (pv 1)) (a_cons (e_var (pv 2)) a_nil)) (ALen.cons (ALen.cons ALen.nil))))
(b_cons (s_set (i := 5) sc_plus.nd rfl (Or.inl rfl) (e_min2 rfl B.n_min (by rfl) (a_cons (e_s_t (e_item (e_varT (pv 3)) (e_s_t e_int) (fun _ _ => rfl))) (a_cons (e_s_t (e_item (e_varT (pv 4)) (e_s_t e_int) (fun _ _ => rfl))) a_nil))))
(b_cons (s_set (i := 6) sc_plus.nd rfl (Or.inl rfl) (e_mul (e_s_t (e_callD (ok_unit_of B) hr (by decide) tk_of (by rfl) (a_cons (e_var (pv 3)) a_nil) (ALen.cons ALen.nil))) (e_s_t (e_callD (ok_power_of B) hr (by decide) tk_of (by rfl) (a_cons (e_item (e_varT (pv 0)) (e_s_t e_int) (fun _ _ => rfl)) (a_cons (e_sub (e_s_t (e_item (e_varT (pv 3)) (e_s_t e_int) (fun _ _ => rfl))) (e_varT (pv 5))) a_nil)) (ALen.cons (ALen.cons ALen.nil))))))
(b_cons (s_augAdd (i := 6) sc_plus.nd rfl (Or.inl rfl) (e_s_t (e_mul (e_s_t (e_callD (ok_unit_of B) hr (by decide) tk_of (by rfl) (a_cons (e_var (pv 4)) a_nil) (ALen.cons ALen.nil))) (e_s_t (e_callD (ok_power_of B) hr (by decide) tk_of (by rfl) (a_cons (e_item (e_varT (pv 0)) (e_s_t e_int) (fun _ _ => rfl)) (a_cons (e_sub (e_s_t (e_item (e_varT (pv 4)) (e_s_t e_int) (fun _ _ => rfl))) (e_varT (pv 5))) a_nil)) (ALen.cons (ALen.cons ALen.nil)))))))
(b_cons (s_ret (e_callD (ok_of_whole B) hr (by decide) tk_of (by rfl) (a_cons (e_item (e_varT (pv 0)) (e_s_t e_int) (fun _ _ => rfl)) (a_cons (e_var (pv 5)) (a_cons (e_var (pv 6)) (a_cons (e_sub (e_varT (pv 2)) (e_varT (pv 5))) a_nil)))) (ALen.cons (ALen.cons (ALen.cons (ALen.cons ALen.nil))))))
b_nil))))))))
theorem ok_plus (B : Tx K mg) : Okd P w K mg base "plus" ["one", "other"] 5 2 false F_plus := def_ok B.d_plus sc_plus rfl (fun z => nomatch z) fun f cdv A outer s H E hr => bd_plus B hr
theorem bd_Sum_of_lefts (B : Tx K mg) {f : Addr} {cdv : Value} {A : Around} {outer : List PySem.Env} {s : Shared} {H : Hp} {E : XK} (hr : Room 6 (A.deeper (envOfC "Sum.of_lefts" (defScope st_Sum_of_lefts) s.heap.objs.size f cdv))) :
    BJ (cxOf (L2N.CX P w) P w K mg base ["self", "one", "other"] "Sum.of_lefts" (defScope st_Sum_of_lefts) f cdv A outer s H E) (fun cls d _ H => E cls d H) false (defBody st_Sum_of_lefts) (D_Sum_of_lefts (addrOf mg)) :=
  (b_cons (s_ret (e_callD (ok_plus B) hr (by decide) tk_of (by rfl) (a_cons (e_var (pv 1)) (a_cons (e_var (pv 2)) a_nil)) (ALen.cons (ALen.cons ALen.nil))))
b_nil)
theorem bd_opposite (B : Tx K mg) {f : Addr} {cdv : Value} {A : Around} {outer : List PySem.Env} {s : Shared} {H : Hp} {E : XK} (hr : Room 4 (A.deeper (envOfC "opposite" (defScope st_opposite) s.heap.objs.size f cdv))) :
    BJ (cxOf (L2N.CX P w) P w K mg base ["one"] "opposite" (defScope st_opposite) f cdv A outer s H E) (fun cls d _ H => E cls d H) false (defBody st_opposite) D_opposite :=
  (b_cons (s_ret (e_callD (ok_of_whole B) hr (by decide) tk_of (by rfl) (a_cons (e_item (e_varT (pv 0)) (e_s_t e_int) (fun _ _ => rfl)) (a_cons (e_item (e_varT (pv 0)) (e_s_t e_int) (fun _ _ => rfl)) (a_cons (e_neg (e_s_t (e_callD (ok_unit_of B) hr (by decide) tk_of (by rfl) (a_cons (e_var (pv 0)) a_nil) (ALen.cons ALen.nil)))) (a_cons (e_callD (ok_known_of B) hr (by decide) tk_of (by rfl) (a_cons (e_var (pv 0)) a_nil) (ALen.cons ALen.nil)) a_nil)))) (ALen.cons (ALen.cons (ALen.cons (ALen.cons ALen.nil))))))
b_nil)
theorem ok_opposite (B : Tx K mg) : Okd P w K mg base "opposite" ["one"] 5 1 false F_opposite := def_ok B.d_opposite sc_opposite rfl (fun z => nomatch z) fun f cdv A outer s H E hr => bd_opposite B hr
theorem bd_minus (B : Tx K mg) {f : Addr} {cdv : Value} {A : Around} {outer : List PySem.Env} {s : Shared} {H : Hp} {E : XK} (hr : Room 5 (A.deeper (envOfC "minus" (defScope st_minus) s.heap.objs.size f cdv))) :
    BJ (cxOf (L2N.CX P w) P w K mg base ["one", "other"] "minus" (defScope st_minus) f cdv A outer s H E) (fun cls d _ H => E cls d H) false (defBody st_minus) D_minus :=
  (b_cons (s_ret (e_callD (ok_plus B) hr (by decide) tk_of (by rfl) (a_cons (e_var (pv 0)) (a_cons (e_callD (ok_opposite B) hr (by decide) tk_of (by rfl) (a_cons (e_var (pv 1)) a_nil) (ALen.cons ALen.nil)) a_nil)) (ALen.cons (ALen.cons ALen.nil))))
b_nil)
theorem ok_minus (B : Tx K mg) : Okd P w K mg base "minus" ["one", "other"] 6 2 false F_minus := def_ok B.d_minus sc_minus rfl (fun z => nomatch z) fun f cdv A outer s H E hr => bd_minus B hr
theorem bd_Difference_of_lefts (B : Tx K mg) {f : Addr} {cdv : Value} {A : Around} {outer : List PySem.Env} {s : Shared} {H : Hp} {E : XK} (hr : Room 6 (A.deeper (envOfC "Difference.of_lefts" (defScope st_Difference_of_lefts) s.heap.objs.size f cdv))) :
    BJ (cxOf (L2N.CX P w) P w K mg base ["self", "one", "other"] "Difference.of_lefts" (defScope st_Difference_of_lefts) f cdv A outer s H E) (fun cls d _ H => E cls d H) false (defBody st_Difference_of_lefts) (D_Difference_of_lefts (addrOf mg)) :=
  (b_cons (s_ret (e_callD (ok_minus B) hr (by decide) tk_of (by rfl) (a_cons (e_var (pv 1)) (a_cons (e_var (pv 2)) a_nil)) (ALen.cons (ALen.cons ALen.nil))))
b_nil)
theorem bd_multiplied (B : Tx K mg) {f : Addr} {cdv : Value} {A : Around} {outer : List PySem.Env} {s : Shared} {H : Hp} {E : XK} (hr : Room 4 (A.deeper (envOfC "multiplied" (defScope st_multiplied) s.heap.objs.size f cdv))) :
    BJ (cxOf (L2N.CX P w) P w K mg base ["one", "other", "many"] "multiplied" (defScope st_multiplied) f cdv A outer s H E) (fun cls d _ H => E cls d H) false (defBody st_multiplied) D_multiplied :=
  (b_cons (s_expr (e_callD (ok_want_alike B) hr (by decide) tk_of (by rfl) (a_cons (e_var (pv 0)) (a_cons (e_var (pv 1)) a_nil)) (ALen.cons (ALen.cons ALen.nil))))
(b_cons (s_set (i := 2) sc_multiplied.nd rfl (Or.inl rfl) (e_min2 rfl B.n_min (by rfl) (a_cons (e_s_t (e_callD (ok_known_of B) hr (by decide) tk_of (by rfl) (a_cons (e_var (pv 0)) a_nil) (ALen.cons ALen.nil))) (a_cons (e_s_t (e_callD (ok_known_of B) hr (by decide) tk_of (by rfl) (a_cons (e_var (pv 1)) a_nil) (ALen.cons ALen.nil))) a_nil))))
(b_cons (s_ret (e_callD (ok_of_whole B) hr (by decide) tk_of (by rfl) (a_cons (e_item (e_varT (pv 0)) (e_s_t e_int) (fun _ _ => rfl)) (a_cons (e_add (e_s_t (e_item (e_varT (pv 0)) (e_s_t e_int) (fun _ _ => rfl))) (e_s_t (e_item (e_varT (pv 1)) (e_s_t e_int) (fun _ _ => rfl)))) (a_cons (e_mul (e_s_t (e_callD (ok_unit_of B) hr (by decide) tk_of (by rfl) (a_cons (e_var (pv 0)) a_nil) (ALen.cons ALen.nil))) (e_s_t (e_callD (ok_unit_of B) hr (by decide) tk_of (by rfl) (a_cons (e_var (pv 1)) a_nil) (ALen.cons ALen.nil)))) (a_cons (e_var (pv 2)) a_nil)))) (ALen.cons (ALen.cons (ALen.cons (ALen.cons ALen.nil))))))
b_nil)))
theorem ok_multiplied (B : Tx K mg) : Okd P w K mg base "multiplied" ["one", "other"] 5 2 false F_multiplied := def_ok B.d_multiplied sc_multiplied rfl (fun z => nomatch z) fun f cdv A outer s H E hr => bd_multiplied B hr
theorem bd_Product_of_lefts (B : Tx K mg) {f : Addr} {cdv : Value} {A : Around} {outer : List PySem.Env} {s : Shared} {H : Hp} {E : XK} (hr : Room 6 (A.deeper (envOfC "Product.of_lefts" (defScope st_Product_of_lefts) s.heap.objs.size f cdv))) :
    BJ (cxOf (L2N.CX P w) P w K mg base ["self", "one", "other"] "Product.of_lefts" (defScope st_Product_of_lefts) f cdv A outer s H E) (fun cls d _ H => E cls d H) false (defBody st_Product_of_lefts) (D_Product_of_lefts (addrOf mg)) :=
  (b_cons (s_ret (e_callD (ok_multiplied B) hr (by decide) tk_of (by rfl) (a_cons (e_var (pv 1)) (a_cons (e_var (pv 2)) a_nil)) (ALen.cons (ALen.cons ALen.nil))))
b_nil)
theorem bd_turned_over (B : Tx K mg) {f : Addr} {cdv : Value} {A : Around} {outer : List PySem.Env} {s : Shared} {H : Hp} {E : XK} (hr : Room 0 (A.deeper (envOfC "turned_over" (defScope st_turned_over) s.heap.objs.size f cdv))) :
    BJ (cxOf (L2N.CX P w) P w K mg base ["number", "whole", "one", "other", "found", "further", "share", "rest"] "turned_over" (defScope st_turned_over) f cdv A outer s H E) (fun cls d _ H => E cls d H) false (defBody st_turned_over) D_turned_over :=
  (b_cons (s_par (i := 2) (j := 3) rfl sc_turned_over.nd rfl rfl (by decide) rfl rfl (a_cons (e_mod (e_varT (pv 0)) (e_varT (pv 1))) (a_cons (e_var (pv 1)) a_nil)) (by rfl))
(b_cons (s_to (e_tup (a_cons e_int (a_cons e_int a_nil))) (g_tup rfl (gs_cons (g_name (pg_name (i := 4) sc_turned_over.nd rfl (Or.inl rfl))) (gs_cons (g_name (pg_name (i := 5) sc_turned_over.nd rfl (Or.inl rfl))) gs_nil)) (gs_len (gs_len gs_len0))))
(b_cons (s_while hp_of (t_gt (e_varT (pv 3)) (e_s_t e_int))
(b_cons (s_to (e_divmod B.n_divmod (by rfl) (a_cons (e_varT (pv 2)) (a_cons (e_varT (pv 3)) a_nil))) (g_tup rfl (gs_cons (g_name (pg_name (i := 6) sc_turned_over.nd rfl (Or.inl rfl))) (gs_cons (g_name (pg_name (i := 7) sc_turned_over.nd rfl (Or.inl rfl))) gs_nil)) (gs_len (gs_len gs_len0))))
(b_cons (s_par (i := 2) (j := 3) rfl sc_turned_over.nd rfl rfl (by decide) rfl rfl (a_cons (e_var (pv 3)) (a_cons (e_var (pv 7)) a_nil)) (by rfl))
(b_cons (s_par (i := 4) (j := 5) rfl sc_turned_over.nd rfl rfl (by decide) rfl rfl (a_cons (e_var (pv 5)) (a_cons (e_sub (e_varT (pv 4)) (e_s_t (e_mul (e_varT (pv 6)) (e_varT (pv 5))))) a_nil)) (by rfl))
b_nil))))
(b_cons (s_ret (e_mod (e_varT (pv 4)) (e_varT (pv 1))))
b_nil))))
theorem ok_turned_over (B : Tx K mg) : Okd P w K mg base "turned_over" ["number", "whole"] 1 2 false F_turned_over := def_ok B.d_turned_over sc_turned_over rfl (fun z => nomatch z) fun f cdv A outer s H E hr => bd_turned_over B hr
theorem bd_divided (B : Tx K mg) {f : Addr} {cdv : Value} {A : Around} {outer : List PySem.Env} {s : Shared} {H : Hp} {E : XK} (hr : Room 4 (A.deeper (envOfC "divided" (defScope st_divided) s.heap.objs.size f cdv))) :
    BJ (cxOf (L2N.CX P w) P w K mg base ["one", "other", "many", "over"] "divided" (defScope st_divided) f cdv A outer s H E) (fun cls d _ H => E cls d H) false (defBody st_divided) D_divided :=
  (b_cons (s_if (t_ne hr.units (e_s_t (e_item (e_varT (pv 0)) (e_s_t e_int) (fun _ _ => rfl))) (e_s_t (e_item (e_varT (pv 1)) (e_s_t e_int) (fun _ _ => rfl))))
(b_cons (s_raise B.x_Unlike.choose_spec rfl tk_of (by rfl))
b_nil)
b_nil)
(b_cons (s_if (t_eq hr.units (e_s_t (e_item (e_varT (pv 1)) (e_s_t e_int) (fun _ _ => rfl))) (e_s_t (e_tup a_nil)))
(b_cons (s_raise B.x_NoQuotient.choose_spec rfl tk_of (by rfl))
b_nil)
b_nil)
(b_cons (s_set (i := 2) sc_divided.nd rfl (Or.inl rfl) (e_min2 rfl B.n_min (by rfl) (a_cons (e_s_t (e_callD (ok_known_of B) hr (by decide) tk_of (by rfl) (a_cons (e_var (pv 0)) a_nil) (ALen.cons ALen.nil))) (a_cons (e_s_t (e_callD (ok_known_of B) hr (by decide) tk_of (by rfl) (a_cons (e_var (pv 1)) a_nil) (ALen.cons ALen.nil))) a_nil))))
(b_cons (s_set (i := 3) sc_divided.nd rfl (Or.inl rfl) (e_callD (ok_turned_over B) hr (by decide) tk_of (by rfl) (a_cons (e_callD (ok_unit_of B) hr (by decide) tk_of (by rfl) (a_cons (e_var (pv 1)) a_nil) (ALen.cons ALen.nil)) (a_cons (e_callD (ok_power_of B) hr (by decide) tk_of (by rfl) (a_cons (e_item (e_varT (pv 0)) (e_s_t e_int) (fun _ _ => rfl)) (a_cons (e_var (pv 2)) a_nil)) (ALen.cons (ALen.cons ALen.nil))) a_nil)) (ALen.cons (ALen.cons ALen.nil))))
(b_cons (s_ret (e_callD (ok_of_whole B) hr (by decide) tk_of (by rfl) (a_cons (e_item (e_varT (pv 0)) (e_s_t e_int) (fun _ _ => rfl)) (a_cons (e_sub (e_s_t (e_item (e_varT (pv 0)) (e_s_t e_int) (fun _ _ => rfl))) (e_s_t (e_item (e_varT (pv 1)) (e_s_t e_int) (fun _ _ => rfl)))) (a_cons (e_mul (e_s_t (e_callD (ok_unit_of B) hr (by decide) tk_of (by rfl) (a_cons (e_var (pv 0)) a_nil) (ALen.cons ALen.nil))) (e_varT (pv 3))) (a_cons (e_var (pv 2)) a_nil)))) (ALen.cons (ALen.cons (ALen.cons (ALen.cons ALen.nil))))))
b_nil)))))
theorem ok_divided (B : Tx K mg) : Okd P w K mg base "divided" ["one", "other"] 5 2 false F_divided := def_ok B.d_divided sc_divided rfl (fun z => nomatch z) fun f cdv A outer s H E hr => bd_divided B hr
theorem bd_Quotient_of_lefts (B : Tx K mg) {f : Addr} {cdv : Value} {A : Around} {outer : List PySem.Env} {s : Shared} {H : Hp} {E : XK} (hr : Room 6 (A.deeper (envOfC "Quotient.of_lefts" (defScope st_Quotient_of_lefts) s.heap.objs.size f cdv))) :
    BJ (cxOf (L2N.CX P w) P w K mg base ["self", "one", "other"] "Quotient.of_lefts" (defScope st_Quotient_of_lefts) f cdv A outer s H E) (fun cls d _ H => E cls d H) false (defBody st_Quotient_of_lefts) (D_Quotient_of_lefts (addrOf mg)) :=
  (b_cons (s_ret (e_callD (ok_divided B) hr (by decide) tk_of (by rfl) (a_cons (e_var (pv 1)) (a_cons (e_var (pv 2)) a_nil)) (ALen.cons (ALen.cons ALen.nil))))
b_nil)
theorem okm_of_lefts (B : Tx K mg) : Okm P w K mg base "of_lefts" (cs4 (addrOf mg)) 7 3 false (G_of_lefts (addrOf mg)) := okm_pick (L := tab4 (addrOf mg) (runF 3 (D_Sum_of_lefts (addrOf mg))) (runF 3 (D_Difference_of_lefts (addrOf mg))) (runF 3 (D_Product_of_lefts (addrOf mg))) (runF 3 (D_Quotient_of_lefts (addrOf mg)))) (cs4_nodup B.ms) (fa_cons ⟨B.cl_Sum.c.cl, meth_fn B.mm_Sum_of_lefts sc_Sum_of_lefts rfl (fun z => nomatch z) fun f cdv A outer s H E hr => bd_Sum_of_lefts B hr⟩
    (fa_cons ⟨B.cl_Difference.c.cl, meth_fn B.mm_Difference_of_lefts sc_Difference_of_lefts rfl (fun z => nomatch z) fun f cdv A outer s H E hr => bd_Difference_of_lefts B hr⟩
    (fa_cons ⟨B.cl_Product.c.cl, meth_fn B.mm_Product_of_lefts sc_Product_of_lefts rfl (fun z => nomatch z) fun f cdv A outer s H E hr => bd_Product_of_lefts B hr⟩
    (fa_cons ⟨B.cl_Quotient.c.cl, meth_fn B.mm_Quotient_of_lefts sc_Quotient_of_lefts rfl (fun z => nomatch z) fun f cdv A outer s H E hr => bd_Quotient_of_lefts B hr⟩
    fa_nil))))
theorem bd_Pair_seen_by (B : Tx K mg) {n : Nat} {V : Addr → List PV → R PV} (ih : Okm P w K mg base "seen_by" (cs6 (addrOf mg)) (7 + n) 3 false V) {f : Addr} {cdv : Value} {A : Around} {outer : List PySem.Env} {s : Shared} {H : Hp} {E : XK} (hr : Room (7 + n) (A.deeper (envOfC "Pair.seen_by" (defScope st_Pair_seen_by) s.heap.objs.size f cdv))) :
    BJ (cxOf (L2N.CX P w) P w K mg base ["self", "p", "place"] "Pair.seen_by" (defScope st_Pair_seen_by) f cdv A outer s H E) (fun cls d _ H => E cls d H) false (defBody st_Pair_seen_by) (D_Pair_seen_by (addrOf mg) V) :=
  (b_cons (s_ret (e_meth (okm_of_lefts B) hr (by omega) tk_of (List.cons_ne_nil _ _) (e_var (pv 0)) (a_cons (e_meth ih hr (by omega) tk_of (List.cons_ne_nil _ _) (e_fld (by decide) (e_var (pv 0))) (a_cons (e_var (pv 1)) (a_cons (e_var (pv 2)) a_nil)) (ALen.cons (ALen.cons ALen.nil))) (a_cons (e_meth ih hr (by omega) tk_of (List.cons_ne_nil _ _) (e_fld (by decide) (e_var (pv 0))) (a_cons (e_var (pv 1)) (a_cons (e_var (pv 2)) a_nil)) (ALen.cons (ALen.cons ALen.nil))) a_nil)) (ALen.cons (ALen.cons ALen.nil))))
b_nil)
theorem bd_known_of_power (B : Tx K mg) {f : Addr} {cdv : Value} {A : Around} {outer : List PySem.Env} {s : Shared} {H : Hp} {E : XK} (hr : Room 1 (A.deeper (envOfC "known_of_power" (defScope st_known_of_power) s.heap.objs.size f cdv))) :
    BJ (cxOf (L2N.CX P w) P w K mg base ["p", "many", "times", "more"] "known_of_power" (defScope st_known_of_power) f cdv A outer s H E) (fun cls d _ H => E cls d H) false (defBody st_known_of_power) D_known_of_power :=
  (b_cons (s_set (i := 3) sc_known_of_power.nd rfl (Or.inl rfl) (e_callD (ok_exponent B) hr (by decide) tk_of (by rfl) (a_cons (e_var (pv 0)) (a_cons (e_var (pv 2)) a_nil)) (ALen.cons (ALen.cons ALen.nil))))
(b_cons (s_if (t_w (w_and (t_eq hr.units (e_varT (pv 0)) (e_s_t e_int)) (w_and (t_eq hr.units (e_varT (pv 1)) (e_s_t e_int)) (w_and1 (t_gt (e_varT (pv 3)) (e_s_t e_int))))))
(b_cons (s_ret (e_add (e_varT (pv 3)) (e_s_t e_int)))
b_nil)
b_nil)
(b_cons (s_ret (e_add (e_varT (pv 1)) (e_varT (pv 3))))
b_nil)))
theorem ok_known_of_power (B : Tx K mg) : Okd P w K mg base "known_of_power" ["p", "many", "times"] 2 3 false F_known_of_power := def_ok B.d_known_of_power sc_known_of_power rfl (fun z => nomatch z) fun f cdv A outer s H E hr => bd_known_of_power B hr
theorem bd_often (B : Tx K mg) {f : Addr} {cdv : Value} {A : Around} {outer : List PySem.Env} {s : Shared} {H : Hp} {E : XK} (hr : Room 0 (A.deeper (envOfC "often" (defScope st_often) s.heap.objs.size f cdv))) :
    BJ (cxOf (L2N.CX P w) P w K mg base ["number", "times", "whole", "found"] "often" (defScope st_often) f cdv A outer s H E) (fun cls d _ H => E cls d H) false (defBody st_often) D_often :=
  (b_cons (s_set (i := 3) sc_often.nd rfl (Or.inl rfl) e_int)
(b_cons (s_while hp_of (t_gt (e_varT (pv 1)) (e_s_t e_int))
(b_cons (s_if (t_eq hr.units (e_s_t (e_mod (e_varT (pv 1)) (e_s_t e_int))) (e_s_t e_int))
(b_cons (s_set (i := 3) sc_often.nd rfl (Or.inl rfl) (e_mod (e_s_t (e_mul (e_varT (pv 3)) (e_varT (pv 0)))) (e_varT (pv 2))))
b_nil)
b_nil)
(b_cons (s_set (i := 0) sc_often.nd rfl (Or.inl rfl) (e_mod (e_s_t (e_mul (e_varT (pv 0)) (e_varT (pv 0)))) (e_varT (pv 2))))
(b_cons (s_set (i := 1) sc_often.nd rfl (Or.inl rfl) (e_fdiv (e_varT (pv 1)) (e_s_t e_int)))
b_nil))))
(b_cons (s_ret (e_var (pv 3)))
b_nil)))
theorem ok_often (B : Tx K mg) : Okd P w K mg base "often" ["number", "times", "whole"] 1 3 false F_often := def_ok B.d_often sc_often rfl (fun z => nomatch z) fun f cdv A outer s H E hr => bd_often B hr
theorem bd_raised (B : Tx K mg) {f : Addr} {cdv : Value} {A : Around} {outer : List PySem.Env} {s : Shared} {H : Hp} {E : XK} (hr : Room 4 (A.deeper (envOfC "raised" (defScope st_raised) s.heap.objs.size f cdv))) :
    BJ (cxOf (L2N.CX P w) P w K mg base ["one", "times", "many", "number"] "raised" (defScope st_raised) f cdv A outer s H E) (fun cls d _ H => E cls d H) false (defBody st_raised) D_raised :=
  (b_cons (s_if (t_w (w_or (t_not (t_val (e_callD (ok_is_whole B) hr (by decide) tk_of (by rfl) (a_cons (e_var (pv 1)) a_nil) (ALen.cons ALen.nil)))) (w_or (t_lt (e_varT (pv 1)) (e_s_t e_int)) (w_or1 (t_gt (e_varT (pv 1)) (e_s_t (e_glI B.c_MOST_TIMES (by rfl))))))))
(b_cons (s_raise B.x_NoPower.choose_spec rfl tk_of (by rfl))
b_nil)
b_nil)
(b_cons (s_if (t_eq hr.units (e_s_t (e_item (e_varT (pv 0)) (e_s_t e_int) (fun _ _ => rfl))) (e_s_t (e_tup a_nil)))
(b_cons (s_ret (e_callD (ok_left_number B) hr (by decide) tk_of (by rfl) (a_cons (e_item (e_varT (pv 0)) (e_s_t e_int) (fun _ _ => rfl)) (a_cons (e_mul (e_varT (pv 1)) (e_s_t (e_item (e_varT (pv 0)) (e_s_t e_int) (fun _ _ => rfl)))) (a_cons (e_tup a_nil) a_nil))) (ALen.cons (ALen.cons (ALen.cons ALen.nil)))))
b_nil)
b_nil)
(b_cons (s_set (i := 2) sc_raised.nd rfl (Or.inl rfl) (e_callD (ok_known_of_power B) hr (by decide) tk_of (by rfl) (a_cons (e_item (e_varT (pv 0)) (e_s_t e_int) (fun _ _ => rfl)) (a_cons (e_callD (ok_known_of B) hr (by decide) tk_of (by rfl) (a_cons (e_var (pv 0)) a_nil) (ALen.cons ALen.nil)) (a_cons (e_var (pv 1)) a_nil))) (ALen.cons (ALen.cons (ALen.cons ALen.nil)))))
(b_cons (s_set (i := 3) sc_raised.nd rfl (Or.inl rfl) (e_callD (ok_often B) hr (by decide) tk_of (by rfl) (a_cons (e_callD (ok_unit_of B) hr (by decide) tk_of (by rfl) (a_cons (e_var (pv 0)) a_nil) (ALen.cons ALen.nil)) (a_cons (e_var (pv 1)) (a_cons (e_callD (ok_power_of B) hr (by decide) tk_of (by rfl) (a_cons (e_item (e_varT (pv 0)) (e_s_t e_int) (fun _ _ => rfl)) (a_cons (e_var (pv 2)) a_nil)) (ALen.cons (ALen.cons ALen.nil))) a_nil))) (ALen.cons (ALen.cons (ALen.cons ALen.nil)))))
(b_cons (s_ret (e_callD (ok_of_whole B) hr (by decide) tk_of (by rfl) (a_cons (e_item (e_varT (pv 0)) (e_s_t e_int) (fun _ _ => rfl)) (a_cons (e_mul (e_varT (pv 1)) (e_s_t (e_item (e_varT (pv 0)) (e_s_t e_int) (fun _ _ => rfl)))) (a_cons (e_var (pv 3)) (a_cons (e_var (pv 2)) a_nil)))) (ALen.cons (ALen.cons (ALen.cons (ALen.cons ALen.nil))))))
b_nil)))))
theorem ok_raised (B : Tx K mg) : Okd P w K mg base "raised" ["one", "times"] 5 2 false F_raised := def_ok B.d_raised sc_raised rfl (fun z => nomatch z) fun f cdv A outer s H E hr => bd_raised B hr
theorem bd_Power_seen_by (B : Tx K mg) {n : Nat} {V : Addr → List PV → R PV} (ih : Okm P w K mg base "seen_by" (cs6 (addrOf mg)) (7 + n) 3 false V) {f : Addr} {cdv : Value} {A : Around} {outer : List PySem.Env} {s : Shared} {H : Hp} {E : XK} (hr : Room (7 + n) (A.deeper (envOfC "Power.seen_by" (defScope st_Power_seen_by) s.heap.objs.size f cdv))) :
    BJ (cxOf (L2N.CX P w) P w K mg base ["self", "p", "place"] "Power.seen_by" (defScope st_Power_seen_by) f cdv A outer s H E) (fun cls d _ H => E cls d H) false (defBody st_Power_seen_by) (D_Power_seen_by (addrOf mg) V) :=
  (b_cons (s_ret (e_callD (ok_raised B) hr (by omega) tk_of (by rfl) (a_cons (e_meth ih hr (by omega) tk_of (List.cons_ne_nil _ _) (e_fld (by decide) (e_var (pv 0))) (a_cons (e_var (pv 1)) (a_cons (e_var (pv 2)) a_nil)) (ALen.cons (ALen.cons ALen.nil))) (a_cons (e_fld (by decide) (e_var (pv 0))) a_nil)) (ALen.cons (ALen.cons ALen.nil))))
b_nil)
theorem okm_seen_by (B : Tx K mg) : ∀ n : Nat, Okm P w K mg base "seen_by" (cs6 (addrOf mg)) (7 + n) 3 false (G_seen_by (addrOf mg) n)
  | 0 => okm_pick (L := tab6 (addrOf mg) (fun _ => .stuck) (fun _ => .stuck) (fun _ => .stuck) (fun _ => .stuck) (fun _ => .stuck) (fun _ => .stuck)) B.ms (fa_cons ⟨B.cl_Part.c.cl, meth_stuck B.mm_Part_seen_by rfl⟩ (fa_cons ⟨B.cl_Sum.c.cl, meth_stuck B.mm_Sum_seen_by rfl⟩ (fa_cons ⟨B.cl_Difference.c.cl, meth_stuck B.mm_Difference_seen_by rfl⟩ (fa_cons ⟨B.cl_Product.c.cl, meth_stuck B.mm_Product_seen_by rfl⟩ (fa_cons ⟨B.cl_Quotient.c.cl, meth_stuck B.mm_Quotient_seen_by rfl⟩ (fa_cons ⟨B.cl_Power.c.cl, meth_stuck B.mm_Power_seen_by rfl⟩ fa_nil))))))
  | n + 1 => okm_pick (L := tab6 (addrOf mg) (runF 3 (D_Part_seen_by (addrOf mg))) (runF 3 (D_Pair_seen_by (addrOf mg) (G_seen_by (addrOf mg) n))) (runF 3 (D_Pair_seen_by (addrOf mg) (G_seen_by (addrOf mg) n))) (runF 3 (D_Pair_seen_by (addrOf mg) (G_seen_by (addrOf mg) n))) (runF 3 (D_Pair_seen_by (addrOf mg) (G_seen_by (addrOf mg) n))) (runF 3 (D_Power_seen_by (addrOf mg) (G_seen_by (addrOf mg) n)))) B.ms (fa_cons ⟨B.cl_Part.c.cl, meth_fn B.mm_Part_seen_by sc_Part_seen_by rfl (fun z => nomatch z) fun f cdv A outer s H E hr => bd_Part_seen_by B (n := n) hr⟩
    (fa_cons ⟨B.cl_Sum.c.cl, meth_fn B.mm_Sum_seen_by sc_Pair_seen_by rfl (fun z => nomatch z) fun f cdv A outer s H E hr => bd_Pair_seen_by B (okm_seen_by B n) hr⟩
    (fa_cons ⟨B.cl_Difference.c.cl, meth_fn B.mm_Difference_seen_by sc_Pair_seen_by rfl (fun z => nomatch z) fun f cdv A outer s H E hr => bd_Pair_seen_by B (okm_seen_by B n) hr⟩
    (fa_cons ⟨B.cl_Product.c.cl, meth_fn B.mm_Product_seen_by sc_Pair_seen_by rfl (fun z => nomatch z) fun f cdv A outer s H E hr => bd_Pair_seen_by B (okm_seen_by B n) hr⟩
    (fa_cons ⟨B.cl_Quotient.c.cl, meth_fn B.mm_Quotient_seen_by sc_Pair_seen_by rfl (fun z => nomatch z) fun f cdv A outer s H E hr => bd_Pair_seen_by B (okm_seen_by B n) hr⟩
    (fa_cons ⟨B.cl_Power.c.cl, meth_fn B.mm_Power_seen_by sc_Power_seen_by rfl (fun z => nomatch z) fun f cdv A outer s H E hr => bd_Power_seen_by B (okm_seen_by B n) hr⟩
    fa_nil))))))
theorem bd_tried (B : Tx K mg) {f : Addr} {cdv : Value} {A : Around} {outer : List PySem.Env} {s : Shared} {H : Hp} {E : XK} (hr : Room 21 (A.deeper (envOfC "tried" (defScope st_tried) s.heap.objs.size f cdv))) :
    BJ (cxOf (L2N.CX P w) P w K mg base ["term", "p", "place", "found"] "tried" (defScope st_tried) f cdv A outer s H E) (fun cls d _ H => E cls d H) false (defBody st_tried) (D_tried (addrOf mg)) :=
  (b_cons (s_tryOE rfl rfl ⟨by rfl, by decide, .inl B.v_NoQuotient.choose_spec⟩ (fun C h => B.e_NoQuotient _ _ h B.v_NoQuotient.choose_spec) (fun W pn xe tk hp => (b_cons (s_set (i := 3) sc_tried.nd rfl (Or.inl rfl) (e_meth (okm_seen_by B 14) hr (by decide) tk (List.cons_ne_nil _ _) (e_var (pv 0)) (a_cons (e_var (pv 1)) (a_cons (e_var (pv 2)) a_nil)) (ALen.cons (ALen.cons ALen.nil))))
b_nil)) (fun a pn => (b_cons (s_ret e_non)
b_nil)) (b_cons (s_ret (e_var (pv 3)))
b_nil))
b_nil)
theorem ok_tried (B : Tx K mg) : Okd P w K mg base "tried" ["term", "p", "place"] 22 3 false (F_tried (addrOf mg)) := def_ok B.d_tried sc_tried rfl (fun z => nomatch z) fun f cdv A outer s H E hr => bd_tried B hr
theorem bd_worked_out (B : Tx K mg) {f : Addr} {cdv : Value} {A : Around} {outer : List PySem.Env} {s : Shared} {H : Hp} {E : XK} (hr : Room 22 (A.deeper (envOfC "worked_out" (defScope st_worked_out) s.heap.objs.size f cdv))) :
    BJ (cxOf (L2N.CX P w) P w K mg base ["term", "p", "place", "far", "found"] "worked_out" (defScope st_worked_out) f cdv A outer s H E) (fun cls d _ H => E cls d H) false (defBody st_worked_out) (D_worked_out (addrOf mg)) :=
  (b_cons (s_for hp_of rfl (i_seq (e_glT B.t_FARTHER (by rfl))) (g_name (pg_name (i := 3) sc_worked_out.nd rfl (Or.inl rfl)))
(b_cons (s_set (i := 4) sc_worked_out.nd rfl (Or.inl rfl) (e_callD (ok_tried B) hr (by decide) tk_of (by rfl) (a_cons (e_var (pv 0)) (a_cons (e_var (pv 1)) (a_cons (e_add (e_varT (pv 2)) (e_varT (pv 3))) a_nil))) (ALen.cons (ALen.cons (ALen.cons ALen.nil)))))
(b_cons (s_if (t_w (w_and (t_notN (e_varT (pv 4)) (e_s_t e_non)) (w_and1 (t_ge (e_s_t (e_callD (ok_end_of B) hr (by decide) tk_of (by rfl) (a_cons (e_var (pv 4)) a_nil) (ALen.cons ALen.nil))) (e_varT (pv 2))))))
(b_cons (s_ret (e_callD (ok_cut_at B) hr (by decide) tk_of (by rfl) (a_cons (e_var (pv 4)) (a_cons (e_var (pv 2)) a_nil)) (ALen.cons (ALen.cons ALen.nil))))
b_nil)
b_nil)
b_nil)))
(b_cons (s_raise B.x_NoQuotient.choose_spec rfl tk_of (by rfl))
b_nil))
theorem ok_worked_out (B : Tx K mg) : Okd P w K mg base "worked_out" ["term", "p", "place"] 23 3 false (F_worked_out (addrOf mg)) := def_ok B.d_worked_out sc_worked_out rfl (fun z => nomatch z) fun f cdv A outer s H E hr => bd_worked_out B hr
theorem bd__law_cell_at (B : Tx K mg) {f : Addr} {cdv : Value} {A : Around} {outer : List PySem.Env} {s : Shared} {H : Hp} {E : XK} (hr : Room 0 (A.deeper (envOfC "_law_cell_at" (defScope st__law_cell_at) s.heap.objs.size f cdv))) :
    BJ (cxOf (L2N.CX P w) P w K mg base ["_law_script", "_law_k"] "_law_cell_at" (defScope st__law_cell_at) f cdv A outer s H E) (fun cls d _ H => E cls d H) false (defBody st__law_cell_at) D__law_cell_at :=
  (b_cons (s_if (t_lt (e_varT (pv 1)) (e_s_t (e_len B.n_len (by rfl) (a_cons (e_varT (pv 0)) a_nil))))
(b_cons (s_ret (e_item (e_varT (pv 0)) (e_varT (pv 1)) (fun _ _ => rfl)))
b_nil)
b_nil)
(b_cons (s_ret e_int)
b_nil))
theorem ok__law_cell_at (B : Tx K mg) : Okd P w K mg base "_law_cell_at" ["_law_script", "_law_k"] 1 2 false F__law_cell_at := def_ok B.d__law_cell_at sc__law_cell_at rfl (fun z => nomatch z) fun f cdv A outer s H E hr => bd__law_cell_at B hr
theorem bd__law_prime (B : Tx K mg) {f : Addr} {cdv : Value} {A : Around} {outer : List PySem.Env} {s : Shared} {H : Hp} {E : XK} (hr : Room 0 (A.deeper (envOfC "_law_prime" (defScope st__law_prime) s.heap.objs.size f cdv))) :
    BJ (cxOf (L2N.CX P w) P w K mg base ["_law_cell", "_law_some"] "_law_prime" (defScope st__law_prime) f cdv A outer s H E) (fun cls d _ H => E cls d H) false (defBody st__law_prime) D__law_prime :=
  (b_cons (s_set (i := 1) sc__law_prime.nd rfl (Or.inl rfl) (e_f_s (e_lst (a_cons e_int (a_cons e_int (a_cons e_int (a_cons e_int (a_cons e_int (a_cons e_int (a_cons e_int (a_cons e_int (a_cons e_int (a_cons e_int (a_cons e_int (a_cons e_int (a_cons e_int (a_cons e_int (a_cons e_int (a_cons e_int (a_cons e_int (a_cons e_int (a_cons e_int (a_cons e_int (a_cons e_int (a_cons e_int (a_cons e_int (a_cons e_int (a_cons e_int a_nil))))))))))))))))))))))))))))
(b_cons (s_ret (e_item (e_varT (pv 1)) (e_s_t (e_mod (e_varT (pv 0)) (e_s_t e_int))) (fun _ _ => rfl)))
b_nil))
theorem ok__law_prime (B : Tx K mg) : Okd P w K mg base "_law_prime" ["_law_cell"] 1 1 false F__law_prime := def_ok B.d__law_prime sc__law_prime rfl (fun z => nomatch z) fun f cdv A outer s H E hr => bd__law_prime B hr
theorem bd__law_times (B : Tx K mg) {f : Addr} {cdv : Value} {A : Around} {outer : List PySem.Env} {s : Shared} {H : Hp} {E : XK} (hr : Room 0 (A.deeper (envOfC "_law_times" (defScope st__law_times) s.heap.objs.size f cdv))) :
    BJ (cxOf (L2N.CX P w) P w K mg base ["_law_p", "_law_tally", "_law_found", "_law_k"] "_law_times" (defScope st__law_times) f cdv A outer s H E) (fun cls d _ H => E cls d H) false (defBody st__law_times) D__law_times :=
  (b_cons (s_set (i := 2) sc__law_times.nd rfl (Or.inl rfl) e_int)
(b_cons (s_for hp_of rfl (i_rng1 B.n_range (by rfl) (a_cons (e_varT (pv 1)) a_nil)) (g_name (pg_name (i := 3) sc__law_times.nd rfl (Or.inl rfl)))
(b_cons (s_set (i := 2) sc__law_times.nd rfl (Or.inl rfl) (e_mul (e_varT (pv 2)) (e_varT (pv 0))))
b_nil))
(b_cons (s_ret (e_var (pv 2)))
b_nil)))
theorem ok__law_times (B : Tx K mg) : Okd P w K mg base "_law_times" ["_law_p", "_law_tally"] 1 2 false F__law_times := def_ok B.d__law_times sc__law_times rfl (fun z => nomatch z) fun f cdv A outer s H E hr => bd__law_times B hr
theorem bd__law_lowest (B : Tx K mg) {f : Addr} {cdv : Value} {A : Around} {outer : List PySem.Env} {s : Shared} {H : Hp} {E : XK} (hr : Room 0 (A.deeper (envOfC "_law_lowest" (defScope st__law_lowest) s.heap.objs.size f cdv))) :
    BJ (cxOf (L2N.CX P w) P w K mg base ["_law_top", "_law_bottom", "_law_one", "_law_other"] "_law_lowest" (defScope st__law_lowest) f cdv A outer s H E) (fun cls d _ H => E cls d H) false (defBody st__law_lowest) D__law_lowest :=
  (b_cons (s_set (i := 2) sc__law_lowest.nd rfl (Or.inl rfl) (e_abs B.n_abs (by rfl) (a_cons (e_varT (pv 0)) a_nil)))
(b_cons (s_set (i := 3) sc__law_lowest.nd rfl (Or.inl rfl) (e_abs B.n_abs (by rfl) (a_cons (e_varT (pv 1)) a_nil)))
(b_cons (s_while hp_of (t_ne hr.units (e_varT (pv 3)) (e_s_t e_int))
(b_cons (s_par (i := 2) (j := 3) rfl sc__law_lowest.nd rfl rfl (by decide) rfl rfl (a_cons (e_var (pv 3)) (a_cons (e_mod (e_varT (pv 2)) (e_varT (pv 3))) a_nil)) (by rfl))
b_nil))
(b_cons (s_ret (e_tup (a_cons (e_fdiv (e_varT (pv 0)) (e_varT (pv 2))) (a_cons (e_fdiv (e_varT (pv 1)) (e_varT (pv 2))) a_nil))))
b_nil))))
theorem ok__law_lowest (B : Tx K mg) : Okd P w K mg base "_law_lowest" ["_law_top", "_law_bottom"] 1 2 false F__law_lowest := def_ok B.d__law_lowest sc__law_lowest rfl (fun z => nomatch z) fun f cdv A outer s H E hr => bd__law_lowest B hr
theorem bd__law_part (B : Tx K mg) {f : Addr} {cdv : Value} {A : Around} {outer : List PySem.Env} {s : Shared} {H : Hp} {E : XK} (hr : Room 2 (A.deeper (envOfC "_law_part" (defScope st__law_part) s.heap.objs.size f cdv))) :
    BJ (cxOf (L2N.CX P w) P w K mg base ["_law_p", "_law_cell", "_law_top", "_law_bottom"] "_law_part" (defScope st__law_part) f cdv A outer s H E) (fun cls d _ H => E cls d H) true (defBody st__law_part) (D__law_part (addrOf mg)) :=
  (b_cons (s_set (i := 2) sc__law_part.nd rfl (Or.inl rfl) (e_sub (e_s_t (e_mod (e_s_t (e_fdiv (e_varT (pv 1)) (e_s_t e_int))) (e_s_t e_int))) (e_s_t e_int)))
(b_cons (s_set (i := 3) sc__law_part.nd rfl (Or.inl rfl) (e_add (e_s_t e_int) (e_s_t (e_mod (e_s_t (e_fdiv (e_varT (pv 1)) (e_s_t e_int))) (e_s_t e_int)))))
(b_cons (s_if (t_eq hr.units (e_s_t (e_mod (e_varT (pv 1)) (e_s_t e_int))) (e_s_t e_int))
(b_cons (s_set (i := 2) sc__law_part.nd rfl (Or.inl rfl) (e_sub (e_s_t (e_mod (e_s_t (e_fdiv (e_varT (pv 1)) (e_s_t e_int))) (e_s_t (e_add (e_s_t (e_mul (e_s_t e_int) (e_s_t (e_pow (e_s_t e_int) (e_s_t e_int))))) (e_s_t e_int))))) (e_s_t (e_pow (e_s_t e_int) (e_s_t e_int)))))
(b_cons (s_set (i := 3) sc__law_part.nd rfl (Or.inl rfl) (e_add (e_s_t e_int) (e_s_t (e_mod (e_s_t (e_fdiv (e_s_t (e_fdiv (e_varT (pv 1)) (e_s_t e_int))) (e_s_t (e_add (e_s_t (e_mul (e_s_t e_int) (e_s_t (e_pow (e_s_t e_int) (e_s_t e_int))))) (e_s_t e_int))))) (e_s_t (e_pow (e_s_t e_int) (e_s_t e_int)))))))
b_nil))
b_nil)
(b_cons (s_if (t_eq hr.units (e_s_t (e_mod (e_varT (pv 1)) (e_s_t e_int))) (e_s_t e_int))
(b_cons (s_set (i := 2) sc__law_part.nd rfl (Or.inl rfl) (e_mul (e_varT (pv 2)) (e_s_t (e_callD (ok__law_times B) hr (by decide) tk_of (by rfl) (a_cons (e_var (pv 0)) (a_cons (e_mod (e_s_t (e_fdiv (e_varT (pv 1)) (e_s_t e_int))) (e_s_t e_int)) a_nil)) (ALen.cons (ALen.cons ALen.nil))))))
(b_cons (s_set (i := 3) sc__law_part.nd rfl (Or.inl rfl) (e_mul (e_varT (pv 3)) (e_s_t (e_callD (ok__law_times B) hr (by decide) tk_of (by rfl) (a_cons (e_var (pv 0)) (a_cons (e_mod (e_s_t (e_fdiv (e_varT (pv 1)) (e_s_t e_int))) (e_s_t e_int)) a_nil)) (ALen.cons (ALen.cons ALen.nil))))))
b_nil))
b_nil)
(b_cons (s_retF (e_lst (a_cons (e_mk (mk_Part B) hr (by decide) (by rfl) (a_cons (e_callD (ok__law_lowest B) hr (by decide) tk_of (by rfl) (a_cons (e_var (pv 2)) (a_cons (e_var (pv 3)) a_nil)) (ALen.cons (ALen.cons ALen.nil))) a_nil)) (a_cons e_int (a_cons e_int a_nil)))))
b_nil)))))
theorem ok__law_part (B : Tx K mg) : Okd P w K mg base "_law_part" ["_law_p", "_law_cell"] 3 2 true (F__law_part (addrOf mg)) := def_ok B.d__law_part sc__law_part rfl (fun _ => (nn_seqR (nn_seqR (nn_seqR (nn_seqR (nn_seqL (nn_ret _))))))) fun f cdv A outer s H E hr => bd__law_part B hr
theorem bd__law_of_two (B : Tx K mg) {f : Addr} {cdv : Value} {A : Around} {outer : List PySem.Env} {s : Shared} {H : Hp} {E : XK} (hr : Room 2 (A.deeper (envOfC "_law_of_two" (defScope st__law_of_two) s.heap.objs.size f cdv))) :
    BJ (cxOf (L2N.CX P w) P w K mg base ["_law_kind", "_law_one", "_law_other", "_law_made"] "_law_of_two" (defScope st__law_of_two) f cdv A outer s H E) (fun cls d _ H => E cls d H) true (defBody st__law_of_two) (D__law_of_two (addrOf mg)) :=
  (b_cons (s_if (t_eq hr.units (e_varT (pv 0)) (e_s_t e_int))
(b_cons (s_set (i := 3) sc__law_of_two.nd rfl (Or.inl rfl) (e_mk (mk_Sum B) hr (by decide) (by rfl) (a_cons (e_item (e_varT (pv 1)) (e_s_t e_int) (fun _ _ => rfl)) (a_cons (e_item (e_varT (pv 2)) (e_s_t e_int) (fun _ _ => rfl)) a_nil))))
b_nil)
(b_cons (s_if (t_eq hr.units (e_varT (pv 0)) (e_s_t e_int))
(b_cons (s_set (i := 3) sc__law_of_two.nd rfl (Or.inl rfl) (e_mk (mk_Difference B) hr (by decide) (by rfl) (a_cons (e_item (e_varT (pv 1)) (e_s_t e_int) (fun _ _ => rfl)) (a_cons (e_item (e_varT (pv 2)) (e_s_t e_int) (fun _ _ => rfl)) a_nil))))
b_nil)
(b_cons (s_if (t_eq hr.units (e_varT (pv 0)) (e_s_t e_int))
(b_cons (s_set (i := 3) sc__law_of_two.nd rfl (Or.inl rfl) (e_mk (mk_Product B) hr (by decide) (by rfl) (a_cons (e_item (e_varT (pv 1)) (e_s_t e_int) (fun _ _ => rfl)) (a_cons (e_item (e_varT (pv 2)) (e_s_t e_int) (fun _ _ => rfl)) a_nil))))
b_nil)
(b_cons (s_set (i := 3) sc__law_of_two.nd rfl (Or.inl rfl) (e_mk (mk_Quotient B) hr (by decide) (by rfl) (a_cons (e_item (e_varT (pv 1)) (e_s_t e_int) (fun _ _ => rfl)) (a_cons (e_item (e_varT (pv 2)) (e_s_t e_int) (fun _ _ => rfl)) a_nil))))
b_nil))
b_nil))
b_nil))
(b_cons (s_retF (e_lst (a_cons (e_var (pv 3)) (a_cons (e_add (e_s_t (e_item (e_varT (pv 1)) (e_s_t e_int) (fun _ _ => rfl))) (e_s_t (e_item (e_varT (pv 2)) (e_s_t e_int) (fun _ _ => rfl)))) (a_cons (e_add (e_s_t e_int) (e_s_t (e_max2 rfl B.n_max (by rfl) (a_cons (e_s_t (e_item (e_varT (pv 1)) (e_s_t e_int) (fun _ _ => rfl))) (a_cons (e_s_t (e_item (e_varT (pv 2)) (e_s_t e_int) (fun _ _ => rfl))) a_nil))))) a_nil)))))
b_nil))
theorem ok__law_of_two (B : Tx K mg) : Okd P w K mg base "_law_of_two" ["_law_kind", "_law_one", "_law_other"] 3 3 true (F__law_of_two (addrOf mg)) := def_ok B.d__law_of_two sc__law_of_two rfl (fun _ => (nn_seqR (nn_seqL (nn_ret _)))) fun f cdv A outer s H E hr => bd__law_of_two B hr
theorem bd__law_room (B : Tx K mg) {f : Addr} {cdv : Value} {A : Around} {outer : List PySem.Env} {s : Shared} {H : Hp} {E : XK} (hr : Room 0 (A.deeper (envOfC "_law_room" (defScope st__law_room) s.heap.objs.size f cdv))) :
    BJ (cxOf (L2N.CX P w) P w K mg base ["_law_stack", "_law_kind", "_law_n"] "_law_room" (defScope st__law_room) f cdv A outer s H E) (fun cls d _ H => E cls d H) false (defBody st__law_room) D__law_room :=
  (b_cons (s_if (t_w (w_and (t_lt (e_varT (pv 1)) (e_s_t e_int)) (w_and1 (t_gt (e_s_t (e_len B.n_len (by rfl) (a_cons (e_varT (pv 0)) a_nil))) (e_s_t e_int)))))
(b_cons (s_ret (e_and (e_le (e_s_t (e_add (e_s_t (e_item (e_s_t (e_item (e_varT (pv 0)) (e_s_t (e_neg (e_s_t e_int))) (fun _ _ => rfl))) (e_s_t e_int) (fun _ _ => rfl))) (e_s_t (e_item (e_s_t (e_item (e_varT (pv 0)) (e_s_t (e_neg (e_s_t e_int))) (fun _ _ => rfl))) (e_s_t e_int) (fun _ _ => rfl))))) (e_s_t e_int)) (e_one (e_lt (e_s_t (e_max2 rfl B.n_max (by rfl) (a_cons (e_s_t (e_item (e_s_t (e_item (e_varT (pv 0)) (e_s_t (e_neg (e_s_t e_int))) (fun _ _ => rfl))) (e_s_t e_int) (fun _ _ => rfl))) (a_cons (e_s_t (e_item (e_s_t (e_item (e_varT (pv 0)) (e_s_t (e_neg (e_s_t e_int))) (fun _ _ => rfl))) (e_s_t e_int) (fun _ _ => rfl))) a_nil)))) (e_s_t e_int)))))
b_nil)
b_nil)
(b_cons (s_ret (e_or (e_ne hr.units (e_varT (pv 1)) (e_s_t e_int)) (e_one (e_and (e_le (e_s_t (e_mul (e_varT (pv 2)) (e_s_t (e_item (e_s_t (e_item (e_varT (pv 0)) (e_s_t (e_neg (e_s_t e_int))) (fun _ _ => rfl))) (e_s_t e_int) (fun _ _ => rfl))))) (e_s_t e_int)) (e_one (e_lt (e_s_t (e_item (e_s_t (e_item (e_varT (pv 0)) (e_s_t (e_neg (e_s_t e_int))) (fun _ _ => rfl))) (e_s_t e_int) (fun _ _ => rfl))) (e_s_t e_int)))))))
b_nil))
theorem ok__law_room (B : Tx K mg) : Okd P w K mg base "_law_room" ["_law_stack", "_law_kind", "_law_n"] 1 3 false F__law_room := def_ok B.d__law_room sc__law_room rfl (fun z => nomatch z) fun f cdv A outer s H E hr => bd__law_room B hr
theorem bd__law_term (B : Tx K mg) {f : Addr} {cdv : Value} {A : Around} {outer : List PySem.Env} {s : Shared} {H : Hp} {E : XK} (hr : Room 3 (A.deeper (envOfC "_law_term" (defScope st__law_term) s.heap.objs.size f cdv))) :
    BJ (cxOf (L2N.CX P w) P w K mg base ["_law_p", "_law_cells", "_law_stack", "_law_cell", "_law_kind", "_law_n"] "_law_term" (defScope st__law_term) f cdv A outer s H E) (fun cls d _ H => E cls d H) false (defBody st__law_term) (D__law_term (addrOf mg)) :=
  (b_cons (s_setO (i := 2) sc__law_term.nd rfl (Or.inl rfl) (e_lst (a_cons (e_f_s (e_callD (ok__law_part B) hr (by decide) tk_of (by rfl) (a_cons (e_var (pv 0)) (a_cons (e_sum1 rfl B.n_sum (by rfl) (a_cons (e_s_t (e_slice (e_varT (pv 1)) o_none (o_some e_int))) a_nil)) a_nil)) (ALen.cons (ALen.cons ALen.nil)))) a_nil)))
(b_cons (s_for hp_of rfl (i_seq (e_slice (e_varT (pv 1)) (o_some e_int) o_none)) (g_name (pg_name (i := 3) sc__law_term.nd rfl (Or.inl rfl)))
(b_cons (s_set (i := 4) sc__law_term.nd rfl (Or.inl rfl) (e_mod (e_varT (pv 3)) (e_s_t e_int)))
(b_cons (s_set (i := 5) sc__law_term.nd rfl (Or.inl rfl) (e_add (e_s_t e_int) (e_s_t (e_mod (e_s_t (e_fdiv (e_varT (pv 3)) (e_s_t e_int))) (e_s_t e_int)))))
(b_cons (s_if (t_lend (i := 2) (t_val (e_callD (ok__law_room B) hr (by decide) tk_of (by rfl) (a_cons (e_var (pv 2)) (a_cons (e_var (pv 4)) (a_cons (e_var (pv 5)) a_nil))) (ALen.cons (ALen.cons (ALen.cons ALen.nil))))))
(b_cons (s_if (t_w (w_and (t_lt (e_varT (pv 4)) (e_s_t e_int)) (w_and1 (t_gt (e_s_t (e_len B.n_len (by rfl) (a_cons (e_varT (pv 2)) a_nil))) (e_s_t e_int)))))
(b_cons (s_setO (i := 2) sc__law_term.nd rfl (Or.inl rfl) (e_addL (e_s_t (e_slice (e_varT (pv 2)) o_none (o_some (e_neg (e_s_t e_int))))) (e_f_t (e_lst (a_cons (e_f_s (e_callD (ok__law_of_two B) hr (by decide) tk_of (by rfl) (a_cons (e_var (pv 4)) (a_cons (e_item (e_varT (pv 2)) (e_s_t (e_neg (e_s_t e_int))) (fun _ _ => rfl)) (a_cons (e_item (e_varT (pv 2)) (e_s_t (e_neg (e_s_t e_int))) (fun _ _ => rfl)) a_nil))) (ALen.cons (ALen.cons (ALen.cons ALen.nil))))) a_nil)))))
b_nil)
(b_cons (s_if (t_eq hr.units (e_varT (pv 4)) (e_s_t e_int))
(b_cons (s_setO (i := 2) sc__law_term.nd rfl (Or.inl rfl) (e_addL (e_s_t (e_slice (e_varT (pv 2)) o_none (o_some (e_neg (e_s_t e_int))))) (e_f_t (e_lst (a_cons (e_f_s (e_lst (a_cons (e_mk (mk_Power B) hr (by decide) (by rfl) (a_cons (e_item (e_s_t (e_item (e_varT (pv 2)) (e_s_t (e_neg (e_s_t e_int))) (fun _ _ => rfl))) (e_s_t e_int) (fun _ _ => rfl)) (a_cons (e_var (pv 5)) a_nil))) (a_cons (e_mul (e_varT (pv 5)) (e_s_t (e_item (e_s_t (e_item (e_varT (pv 2)) (e_s_t (e_neg (e_s_t e_int))) (fun _ _ => rfl))) (e_s_t e_int) (fun _ _ => rfl)))) (a_cons (e_add (e_s_t e_int) (e_s_t (e_item (e_s_t (e_item (e_varT (pv 2)) (e_s_t (e_neg (e_s_t e_int))) (fun _ _ => rfl))) (e_s_t e_int) (fun _ _ => rfl)))) a_nil))))) a_nil)))))
b_nil)
(b_cons (s_app (i := 2) (pv 2) (e_f_s (e_callD (ok__law_part B) hr (by decide) tk_of (by rfl) (a_cons (e_var (pv 0)) (a_cons (e_fdiv (e_varT (pv 3)) (e_s_t e_int)) a_nil)) (ALen.cons (ALen.cons ALen.nil)))))
b_nil))
b_nil))
b_nil)
b_nil)
b_nil))))
(b_cons (s_ret (e_item (e_s_t (e_item (e_varT (pv 2)) (e_s_t (e_neg (e_s_t e_int))) (fun _ _ => rfl))) (e_s_t e_int) (fun _ _ => rfl)))
b_nil)))
theorem ok__law_term (B : Tx K mg) : Okd P w K mg base "_law_term" ["_law_p", "_law_cells"] 4 2 false (F__law_term (addrOf mg)) := def_ok B.d__law_term sc__law_term rfl (fun z => nomatch z) fun f cdv A outer s H E hr => bd__law_term B hr
theorem bd__law_small (B : Tx K mg) {f : Addr} {cdv : Value} {A : Around} {outer : List PySem.Env} {s : Shared} {H : Hp} {E : XK} (hr : Room 2 (A.deeper (envOfC "_law_small" (defScope st__law_small) s.heap.objs.size f cdv))) :
    BJ (cxOf (L2N.CX P w) P w K mg base ["_law_p", "_law_tally", "_law_number", "_law_k"] "_law_small" (defScope st__law_small) f cdv A outer s H E) (fun cls d _ H => E cls d H) false (defBody st__law_small) (D__law_small (addrOf mg)) :=
  (b_cons (s_set (i := 2) sc__law_small.nd rfl (Or.inl rfl) e_int)
(b_cons (s_for hp_of rfl (i_rng1 B.n_range (by rfl) (a_cons (e_varT (pv 1)) a_nil)) (g_name (pg_name (i := 3) sc__law_small.nd rfl (Or.inl rfl)))
(b_cons (s_if (t_lt (e_s_t (e_mul (e_varT (pv 2)) (e_varT (pv 0)))) (e_s_t (e_pow (e_s_t e_int) (e_s_t e_int))))
(b_cons (s_set (i := 2) sc__law_small.nd rfl (Or.inl rfl) (e_mul (e_varT (pv 2)) (e_varT (pv 0))))
b_nil)
b_nil)
b_nil))
(b_cons (s_ret (e_mk (mk_Part B) hr (by decide) (by rfl) (a_cons (e_tup (a_cons (e_var (pv 2)) (a_cons e_int a_nil))) a_nil)))
b_nil)))
theorem ok__law_small (B : Tx K mg) : Okd P w K mg base "_law_small" ["_law_p", "_law_tally"] 3 2 false (F__law_small (addrOf mg)) := def_ok B.d__law_small sc__law_small rfl (fun z => nomatch z) fun f cdv A outer s H E hr => bd__law_small B hr
theorem bd__law_near (B : Tx K mg) {f : Addr} {cdv : Value} {A : Around} {outer : List PySem.Env} {s : Shared} {H : Hp} {E : XK} (hr : Room 3 (A.deeper (envOfC "_law_near" (defScope st__law_near) s.heap.objs.size f cdv))) :
    BJ (cxOf (L2N.CX P w) P w K mg base ["_law_p", "_law_term_here", "_law_cell", "_law_small_here", "_law_made"] "_law_near" (defScope st__law_near) f cdv A outer s H E) (fun cls d _ H => E cls d H) false (defBody st__law_near) (D__law_near (addrOf mg)) :=
  (b_cons (s_set (i := 3) sc__law_near.nd rfl (Or.inl rfl) (e_mk (mk_Product B) hr (by decide) (by rfl) (a_cons (e_callD (ok__law_small B) hr (by decide) tk_of (by rfl) (a_cons (e_var (pv 0)) (a_cons (e_mod (e_s_t (e_fdiv (e_varT (pv 2)) (e_s_t e_int))) (e_s_t e_int)) a_nil)) (ALen.cons (ALen.cons ALen.nil))) (a_cons (e_callD (ok__law_small B) hr (by decide) tk_of (by rfl) (a_cons (e_var (pv 0)) (a_cons (e_mod (e_s_t (e_fdiv (e_varT (pv 2)) (e_s_t e_int))) (e_s_t e_int)) a_nil)) (ALen.cons (ALen.cons ALen.nil))) a_nil))))
(b_cons (s_set (i := 4) sc__law_near.nd rfl (Or.inl rfl) (e_mk (mk_Difference B) hr (by decide) (by rfl) (a_cons (e_mk (mk_Sum B) hr (by decide) (by rfl) (a_cons (e_var (pv 1)) (a_cons (e_var (pv 3)) a_nil))) (a_cons (e_var (pv 1)) a_nil))))
(b_cons (s_if (t_eq hr.units (e_s_t (e_mod (e_s_t (e_fdiv (e_varT (pv 2)) (e_s_t e_int))) (e_s_t e_int))) (e_s_t e_int))
(b_cons (s_set (i := 4) sc__law_near.nd rfl (Or.inl rfl) (e_mk (mk_Quotient B) hr (by decide) (by rfl) (a_cons (e_mk (mk_Part B) hr (by decide) (by rfl) (a_cons (e_tup (a_cons e_int (a_cons e_int a_nil))) a_nil)) (a_cons (e_var (pv 4)) a_nil))))
b_nil)
b_nil)
(b_cons (s_ret (e_var (pv 4)))
b_nil))))
theorem ok__law_near (B : Tx K mg) : Okd P w K mg base "_law_near" ["_law_p", "_law_term_here", "_law_cell"] 4 3 false (F__law_near (addrOf mg)) := def_ok B.d__law_near sc__law_near rfl (fun z => nomatch z) fun f cdv A outer s H E hr => bd__law_near B hr
theorem bd__law_enough (B : Tx K mg) {f : Addr} {cdv : Value} {A : Around} {outer : List PySem.Env} {s : Shared} {H : Hp} {E : XK} (hr : Room 21 (A.deeper (envOfC "_law_enough" (defScope st__law_enough) s.heap.objs.size f cdv))) :
    BJ (cxOf (L2N.CX P w) P w K mg base ["_law_term_here", "_law_p", "_law_place", "_law_far", "_law_found"] "_law_enough" (defScope st__law_enough) f cdv A outer s H E) (fun cls d _ H => E cls d H) false (defBody st__law_enough) (D__law_enough (addrOf mg)) :=
  (b_cons (s_for hp_of rfl (i_seq (e_f_s (e_lst (a_cons e_int (a_cons e_int (a_cons e_int (a_cons e_int (a_cons e_int (a_cons e_int (a_cons e_int (a_cons e_int (a_cons e_int (a_cons e_int a_nil))))))))))))) (g_name (pg_name (i := 3) sc__law_enough.nd rfl (Or.inl rfl)))
(b_cons (s_set (i := 4) sc__law_enough.nd rfl (Or.inl rfl) e_bl)
(b_cons (s_tryO rfl rfl ⟨by rfl, by decide, .inl B.v_NoQuotient.choose_spec⟩ (fun C h => B.e_NoQuotient _ _ h B.v_NoQuotient.choose_spec) (fun W pn xe tk hp => (b_cons (s_set (i := 4) sc__law_enough.nd rfl (Or.inl rfl) (e_ge (e_s_t (e_callD (ok_end_of B) hr (by decide) tk (by rfl) (a_cons (e_meth (okm_seen_by B 14) hr (by decide) tk (List.cons_ne_nil _ _) (e_var (pv 0)) (a_cons (e_var (pv 1)) (a_cons (e_add (e_varT (pv 2)) (e_varT (pv 3))) a_nil)) (ALen.cons (ALen.cons ALen.nil))) a_nil) (ALen.cons ALen.nil))) (e_varT (pv 2))))
b_nil)) (fun a pn => (b_cons (s_set (i := 4) sc__law_enough.nd rfl (Or.inl rfl) e_bl)
b_nil)))
(b_cons (s_if (t_val (e_var (pv 4)))
(b_cons (s_ret e_bl)
b_nil)
b_nil)
b_nil))))
(b_cons (s_ret e_bl)
b_nil))
theorem ok__law_enough (B : Tx K mg) : Okd P w K mg base "_law_enough" ["_law_term_here", "_law_p", "_law_place"] 22 3 false (F__law_enough (addrOf mg)) := def_ok B.d__law_enough sc__law_enough rfl (fun z => nomatch z) fun f cdv A outer s H E hr => bd__law_enough B hr
theorem bd__law_refused (B : Tx K mg) {f : Addr} {cdv : Value} {A : Around} {outer : List PySem.Env} {s : Shared} {H : Hp} {E : XK} (hr : Room 23 (A.deeper (envOfC "_law_refused" (defScope st__law_refused) s.heap.objs.size f cdv))) :
    BJ (cxOf (L2N.CX P w) P w K mg base ["_law_term_here", "_law_p", "_law_place", "_law_refused_here"] "_law_refused" (defScope st__law_refused) f cdv A outer s H E) (fun cls d _ H => E cls d H) false (defBody st__law_refused) (D__law_refused (addrOf mg)) :=
  (b_cons (s_set (i := 3) sc__law_refused.nd rfl (Or.inl rfl) e_bl)
(b_cons (s_tryO rfl rfl ⟨by rfl, by decide, .inl B.v_NoQuotient.choose_spec⟩ (fun C h => B.e_NoQuotient _ _ h B.v_NoQuotient.choose_spec) (fun W pn xe tk hp => (b_cons (s_expr (e_callD (ok_worked_out B) hr (by decide) tk (by rfl) (a_cons (e_var (pv 0)) (a_cons (e_var (pv 1)) (a_cons (e_var (pv 2)) a_nil))) (ALen.cons (ALen.cons (ALen.cons ALen.nil)))))
b_nil)) (fun a pn => (b_cons (s_set (i := 3) sc__law_refused.nd rfl (Or.inl rfl) e_bl)
b_nil)))
(b_cons (s_ret (e_var (pv 3)))
b_nil)))
theorem ok__law_refused (B : Tx K mg) : Okd P w K mg base "_law_refused" ["_law_term_here", "_law_p", "_law_place"] 24 3 false (F__law_refused (addrOf mg)) := def_ok B.d__law_refused sc__law_refused rfl (fun z => nomatch z) fun f cdv A outer s H E hr => bd__law_refused B hr
theorem bd_Part_value (B : Tx K mg) {n : Nat} {f : Addr} {cdv : Value} {A : Around} {outer : List PySem.Env} {s : Shared} {H : Hp} {E : XK} (hr : Room (4 + n) (A.deeper (envOfC "Part.value" (defScope st_Part_value) s.heap.objs.size f cdv))) :
    BJ (cxOf (L2N.CX P w) P w K mg base ["self"] "Part.value" (defScope st_Part_value) f cdv A outer s H E) (fun cls d _ H => E cls d H) false (defBody st_Part_value) (D_Part_value (addrOf mg)) :=
  (b_cons (s_ret (e_fld (by decide) (e_var (pv 0))))
b_nil)
theorem bd_Sum_of_fractions (B : Tx K mg) {f : Addr} {cdv : Value} {A : Around} {outer : List PySem.Env} {s : Shared} {H : Hp} {E : XK} (hr : Room 3 (A.deeper (envOfC "Sum.of_fractions" (defScope st_Sum_of_fractions) s.heap.objs.size f cdv))) :
    BJ (cxOf (L2N.CX P w) P w K mg base ["self", "one", "other"] "Sum.of_fractions" (defScope st_Sum_of_fractions) f cdv A outer s H E) (fun cls d _ H => E cls d H) false (defBody st_Sum_of_fractions) (D_Sum_of_fractions (addrOf mg)) :=
  (b_cons (s_ret (e_callD (ok_plus_fraction B) hr (by decide) tk_of (by rfl) (a_cons (e_var (pv 1)) (a_cons (e_var (pv 2)) a_nil)) (ALen.cons (ALen.cons ALen.nil))))
b_nil)
theorem bd_Difference_of_fractions (B : Tx K mg) {f : Addr} {cdv : Value} {A : Around} {outer : List PySem.Env} {s : Shared} {H : Hp} {E : XK} (hr : Room 3 (A.deeper (envOfC "Difference.of_fractions" (defScope st_Difference_of_fractions) s.heap.objs.size f cdv))) :
    BJ (cxOf (L2N.CX P w) P w K mg base ["self", "one", "other"] "Difference.of_fractions" (defScope st_Difference_of_fractions) f cdv A outer s H E) (fun cls d _ H => E cls d H) false (defBody st_Difference_of_fractions) (D_Difference_of_fractions (addrOf mg)) :=
  (b_cons (s_ret (e_callD (ok_minus_fraction B) hr (by decide) tk_of (by rfl) (a_cons (e_var (pv 1)) (a_cons (e_var (pv 2)) a_nil)) (ALen.cons (ALen.cons ALen.nil))))
b_nil)
theorem bd_Product_of_fractions (B : Tx K mg) {f : Addr} {cdv : Value} {A : Around} {outer : List PySem.Env} {s : Shared} {H : Hp} {E : XK} (hr : Room 3 (A.deeper (envOfC "Product.of_fractions" (defScope st_Product_of_fractions) s.heap.objs.size f cdv))) :
    BJ (cxOf (L2N.CX P w) P w K mg base ["self", "one", "other"] "Product.of_fractions" (defScope st_Product_of_fractions) f cdv A outer s H E) (fun cls d _ H => E cls d H) false (defBody st_Product_of_fractions) (D_Product_of_fractions (addrOf mg)) :=
  (b_cons (s_ret (e_callD (ok_times_fraction B) hr (by decide) tk_of (by rfl) (a_cons (e_var (pv 1)) (a_cons (e_var (pv 2)) a_nil)) (ALen.cons (ALen.cons ALen.nil))))
b_nil)
theorem bd_Quotient_of_fractions (B : Tx K mg) {f : Addr} {cdv : Value} {A : Around} {outer : List PySem.Env} {s : Shared} {H : Hp} {E : XK} (hr : Room 3 (A.deeper (envOfC "Quotient.of_fractions" (defScope st_Quotient_of_fractions) s.heap.objs.size f cdv))) :
    BJ (cxOf (L2N.CX P w) P w K mg base ["self", "one", "other"] "Quotient.of_fractions" (defScope st_Quotient_of_fractions) f cdv A outer s H E) (fun cls d _ H => E cls d H) false (defBody st_Quotient_of_fractions) (D_Quotient_of_fractions (addrOf mg)) :=
  (b_cons (s_if (t_eq hr.units (e_s_t (e_item (e_varT (pv 2)) (e_s_t e_int) (fun _ _ => rfl))) (e_s_t e_int))
(b_cons (s_raise B.x_NoQuotient.choose_spec rfl tk_of (by rfl))
b_nil)
b_nil)
(b_cons (s_ret (e_callD (ok_over_fraction B) hr (by decide) tk_of (by rfl) (a_cons (e_var (pv 1)) (a_cons (e_var (pv 2)) a_nil)) (ALen.cons (ALen.cons ALen.nil))))
b_nil))
theorem okm_of_fractions (B : Tx K mg) : Okm P w K mg base "of_fractions" (cs4 (addrOf mg)) 4 3 false (G_of_fractions (addrOf mg)) := okm_pick (L := tab4 (addrOf mg) (runF 3 (D_Sum_of_fractions (addrOf mg))) (runF 3 (D_Difference_of_fractions (addrOf mg))) (runF 3 (D_Product_of_fractions (addrOf mg))) (runF 3 (D_Quotient_of_fractions (addrOf mg)))) (cs4_nodup B.ms) (fa_cons ⟨B.cl_Sum.c.cl, meth_fn B.mm_Sum_of_fractions sc_Sum_of_fractions rfl (fun z => nomatch z) fun f cdv A outer s H E hr => bd_Sum_of_fractions B hr⟩
    (fa_cons ⟨B.cl_Difference.c.cl, meth_fn B.mm_Difference_of_fractions sc_Difference_of_fractions rfl (fun z => nomatch z) fun f cdv A outer s H E hr => bd_Difference_of_fractions B hr⟩
    (fa_cons ⟨B.cl_Product.c.cl, meth_fn B.mm_Product_of_fractions sc_Product_of_fractions rfl (fun z => nomatch z) fun f cdv A outer s H E hr => bd_Product_of_fractions B hr⟩
    (fa_cons ⟨B.cl_Quotient.c.cl, meth_fn B.mm_Quotient_of_fractions sc_Quotient_of_fractions rfl (fun z => nomatch z) fun f cdv A outer s H E hr => bd_Quotient_of_fractions B hr⟩
    fa_nil))))
theorem bd_Pair_value (B : Tx K mg) {n : Nat} {V : Addr → List PV → R PV} (ih : Okm P w K mg base "value" (cs6 (addrOf mg)) (4 + n) 1 false V) {f : Addr} {cdv : Value} {A : Around} {outer : List PySem.Env} {s : Shared} {H : Hp} {E : XK} (hr : Room (4 + n) (A.deeper (envOfC "Pair.value" (defScope st_Pair_value) s.heap.objs.size f cdv))) :
    BJ (cxOf (L2N.CX P w) P w K mg base ["self"] "Pair.value" (defScope st_Pair_value) f cdv A outer s H E) (fun cls d _ H => E cls d H) false (defBody st_Pair_value) (D_Pair_value (addrOf mg) V) :=
  (b_cons (s_ret (e_meth (okm_of_fractions B) hr (by omega) tk_of (List.cons_ne_nil _ _) (e_var (pv 0)) (a_cons (e_meth0 ih hr (by omega) tk_of (List.cons_ne_nil _ _) (e_fld (by decide) (e_var (pv 0)))) (a_cons (e_meth0 ih hr (by omega) tk_of (List.cons_ne_nil _ _) (e_fld (by decide) (e_var (pv 0)))) a_nil)) (ALen.cons (ALen.cons ALen.nil))))
b_nil)
theorem bd_Power_value (B : Tx K mg) {n : Nat} {V : Addr → List PV → R PV} (ih : Okm P w K mg base "value" (cs6 (addrOf mg)) (4 + n) 1 false V) {f : Addr} {cdv : Value} {A : Around} {outer : List PySem.Env} {s : Shared} {H : Hp} {E : XK} (hr : Room (4 + n) (A.deeper (envOfC "Power.value" (defScope st_Power_value) s.heap.objs.size f cdv))) :
    BJ (cxOf (L2N.CX P w) P w K mg base ["self", "part", "found", "k"] "Power.value" (defScope st_Power_value) f cdv A outer s H E) (fun cls d _ H => E cls d H) false (defBody st_Power_value) (D_Power_value (addrOf mg) V) :=
  (b_cons (s_set (i := 1) sc_Power_value.nd rfl (Or.inl rfl) (e_meth0 ih hr (by omega) tk_of (List.cons_ne_nil _ _) (e_fld (by decide) (e_var (pv 0)))))
(b_cons (s_set (i := 2) sc_Power_value.nd rfl (Or.inl rfl) (e_var (pv 1)))
(b_cons (s_for hp_of rfl (i_rng2 B.n_range (by rfl) (a_cons (e_s_t e_int) (a_cons (e_s_t (e_fld (by decide) (e_var (pv 0)))) a_nil))) (g_name (pg_name (i := 3) sc_Power_value.nd rfl (Or.inl rfl)))
(b_cons (s_set (i := 2) sc_Power_value.nd rfl (Or.inl rfl) (e_callD (ok_times_fraction B) hr (by omega) tk_of (by rfl) (a_cons (e_var (pv 2)) (a_cons (e_var (pv 1)) a_nil)) (ALen.cons (ALen.cons ALen.nil))))
b_nil))
(b_cons (s_ret (e_var (pv 2)))
b_nil))))
theorem okm_value (B : Tx K mg) : ∀ n : Nat, Okm P w K mg base "value" (cs6 (addrOf mg)) (4 + n) 1 false (G_value (addrOf mg) n)
  | 0 => okm_pick (L := tab6 (addrOf mg) (fun _ => .stuck) (fun _ => .stuck) (fun _ => .stuck) (fun _ => .stuck) (fun _ => .stuck) (fun _ => .stuck)) B.ms (fa_cons ⟨B.cl_Part.c.cl, meth_stuck B.mm_Part_value rfl⟩ (fa_cons ⟨B.cl_Sum.c.cl, meth_stuck B.mm_Sum_value rfl⟩ (fa_cons ⟨B.cl_Difference.c.cl, meth_stuck B.mm_Difference_value rfl⟩ (fa_cons ⟨B.cl_Product.c.cl, meth_stuck B.mm_Product_value rfl⟩ (fa_cons ⟨B.cl_Quotient.c.cl, meth_stuck B.mm_Quotient_value rfl⟩ (fa_cons ⟨B.cl_Power.c.cl, meth_stuck B.mm_Power_value rfl⟩ fa_nil))))))
  | n + 1 => okm_pick (L := tab6 (addrOf mg) (runF 1 (D_Part_value (addrOf mg))) (runF 1 (D_Pair_value (addrOf mg) (G_value (addrOf mg) n))) (runF 1 (D_Pair_value (addrOf mg) (G_value (addrOf mg) n))) (runF 1 (D_Pair_value (addrOf mg) (G_value (addrOf mg) n))) (runF 1 (D_Pair_value (addrOf mg) (G_value (addrOf mg) n))) (runF 4 (D_Power_value (addrOf mg) (G_value (addrOf mg) n)))) B.ms (fa_cons ⟨B.cl_Part.c.cl, meth_fn B.mm_Part_value sc_Part_value rfl (fun z => nomatch z) fun f cdv A outer s H E hr => bd_Part_value B (n := n) hr⟩
    (fa_cons ⟨B.cl_Sum.c.cl, meth_fn B.mm_Sum_value sc_Pair_value rfl (fun z => nomatch z) fun f cdv A outer s H E hr => bd_Pair_value B (okm_value B n) hr⟩
    (fa_cons ⟨B.cl_Difference.c.cl, meth_fn B.mm_Difference_value sc_Pair_value rfl (fun z => nomatch z) fun f cdv A outer s H E hr => bd_Pair_value B (okm_value B n) hr⟩
    (fa_cons ⟨B.cl_Product.c.cl, meth_fn B.mm_Product_value sc_Pair_value rfl (fun z => nomatch z) fun f cdv A outer s H E hr => bd_Pair_value B (okm_value B n) hr⟩
    (fa_cons ⟨B.cl_Quotient.c.cl, meth_fn B.mm_Quotient_value sc_Pair_value rfl (fun z => nomatch z) fun f cdv A outer s H E hr => bd_Pair_value B (okm_value B n) hr⟩
    (fa_cons ⟨B.cl_Power.c.cl, meth_fn B.mm_Power_value sc_Power_value rfl (fun z => nomatch z) fun f cdv A outer s H E hr => bd_Power_value B (okm_value B n) hr⟩
    fa_nil))))))
theorem bd_law (B : Tx K mg) {f : Addr} {cdv : Value} {A : Around} {outer : List PySem.Env} {s : Shared} {H : Hp} {E : XK} (hr : Room 24 (A.deeper (envOfC "law" (defScope st_law) s.heap.objs.size f cdv))) :
    BJ (cxOf (L2N.CX P w) P w K mg base ["_law_script", "_law_p", "_law_place", "_law_term_here", "_law_cell", "_law_due", "_law_k", "_law_told"] "law" (defScope st_law) f cdv A outer s H E) (fun cls d _ H => E cls d H) false (defBody st_law) (D_law (addrOf mg)) :=
  (b_cons (s_set (i := 1) sc_law.nd rfl (Or.inl rfl) (e_callD (ok__law_prime B) hr (by decide) tk_of (by rfl) (a_cons (e_callD (ok__law_cell_at B) hr (by decide) tk_of (by rfl) (a_cons (e_var (pv 0)) (a_cons e_int a_nil)) (ALen.cons (ALen.cons ALen.nil))) a_nil) (ALen.cons ALen.nil)))
(b_cons (s_set (i := 2) sc_law.nd rfl (Or.inl rfl) (e_sub (e_s_t (e_mod (e_s_t (e_callD (ok__law_cell_at B) hr (by decide) tk_of (by rfl) (a_cons (e_var (pv 0)) (a_cons e_int a_nil)) (ALen.cons (ALen.cons ALen.nil)))) (e_s_t e_int))) (e_s_t e_int)))
(b_cons (s_set (i := 3) sc_law.nd rfl (Or.inl rfl) (e_callD (ok__law_term B) hr (by decide) tk_of (by rfl) (a_cons (e_var (pv 1)) (a_cons (e_slice (e_varT (pv 0)) (o_some e_int) (o_some e_int)) a_nil)) (ALen.cons (ALen.cons ALen.nil))))
(b_cons (s_set (i := 4) sc_law.nd rfl (Or.inl rfl) (e_callD (ok__law_cell_at B) hr (by decide) tk_of (by rfl) (a_cons (e_var (pv 0)) (a_cons e_int a_nil)) (ALen.cons (ALen.cons ALen.nil))))
(b_cons (s_if (t_eq hr.units (e_s_t (e_mod (e_varT (pv 4)) (e_s_t e_int))) (e_s_t e_int))
(b_cons (s_set (i := 3) sc_law.nd rfl (Or.inl rfl) (e_callD (ok__law_near B) hr (by decide) tk_of (by rfl) (a_cons (e_var (pv 1)) (a_cons (e_var (pv 3)) (a_cons (e_var (pv 4)) a_nil))) (ALen.cons (ALen.cons (ALen.cons ALen.nil)))))
b_nil)
b_nil)
(b_cons (s_if (t_not (t_val (e_callD (ok__law_enough B) hr (by decide) tk_of (by rfl) (a_cons (e_var (pv 3)) (a_cons (e_var (pv 1)) (a_cons (e_var (pv 2)) a_nil))) (ALen.cons (ALen.cons (ALen.cons ALen.nil))))))
(b_cons (s_ret (e_and (e_callD (ok__law_refused B) hr (by decide) tk_of (by rfl) (a_cons (e_var (pv 3)) (a_cons (e_var (pv 1)) (a_cons (e_var (pv 2)) a_nil))) (ALen.cons (ALen.cons (ALen.cons ALen.nil)))) (e_one (e_callD (ok__law_refused B) hr (by decide) tk_of (by rfl) (a_cons (e_var (pv 3)) (a_cons (e_var (pv 1)) (a_cons (e_var (pv 2)) a_nil))) (ALen.cons (ALen.cons (ALen.cons ALen.nil)))))))
b_nil)
b_nil)
(b_cons (s_set (i := 5) sc_law.nd rfl (Or.inl rfl) (e_callD (ok_seen_left B) hr (by decide) tk_of (by rfl) (a_cons (e_var (pv 1)) (a_cons (e_meth0 (okm_value B 14) hr (by decide) tk_of (List.cons_ne_nil _ _) (e_var (pv 3))) (a_cons (e_var (pv 2)) a_nil))) (ALen.cons (ALen.cons (ALen.cons ALen.nil)))))
(b_cons (s_for hp_of rfl (i_rng1 B.n_range (by rfl) (a_cons (e_s_t e_int) a_nil)) (g_name (pg_name (i := 6) sc_law.nd rfl (Or.inl rfl)))
(b_cons (s_set (i := 7) sc_law.nd rfl (Or.inl rfl) (e_callD (ok_worked_out B) hr (by decide) tk_of (by rfl) (a_cons (e_var (pv 3)) (a_cons (e_var (pv 1)) (a_cons (e_var (pv 2)) a_nil))) (ALen.cons (ALen.cons (ALen.cons ALen.nil)))))
(b_cons (s_if (t_w (w_or (t_not (t_val (e_callD (ok_is_left B) hr (by decide) tk_of (by rfl) (a_cons (e_var (pv 7)) a_nil) (ALen.cons ALen.nil)))) (w_or1 (t_ne hr.units (e_varT (pv 7)) (e_varT (pv 5))))))
(b_cons (s_ret e_bl)
b_nil)
b_nil)
b_nil)))
(b_cons (s_ret e_bl)
b_nil)))))))))
end
theorem all_mk {l : PySem.W.OpenLaw} {w : World} {K : PySem.W.Frag} {h : Heap} {mg : Str → Option Value} {fa : Addr} (X : K.In h) (G : h.Ns mainGlobals mg) (hfa : mg "law" = some (.ref fa))
    {f0 : Addr} {od0 an0 : Option Addr} {sl0 : Array (Option Value)} {oc0 kV0 dc0 pm0 cd0 ct0 : Value}
    {f1 : Addr} {od1 an1 : Option Addr} {sl1 : Array (Option Value)} {oc1 kV1 dc1 pm1 cd1 ct1 : Value}
    {f2 : Addr} {od2 an2 : Option Addr} {sl2 : Array (Option Value)} {oc2 kV2 dc2 pm2 cd2 ct2 : Value}
    {f3 : Addr} {od3 an3 : Option Addr} {sl3 : Array (Option Value)} {oc3 kV3 dc3 pm3 cd3 ct3 : Value}
    {f4 : Addr} {od4 an4 : Option Addr} {sl4 : Array (Option Value)} {oc4 kV4 dc4 pm4 cd4 ct4 : Value}
    {f5 : Addr} {od5 an5 : Option Addr} {sl5 : Array (Option Value)} {oc5 kV5 dc5 pm5 cd5 ct5 : Value} {T5 : Addr} {td5 : Option Addr} {tc5 : Value} {tm5 : Nat} {tt5 : Tok} {tl5 : Array (Option Value)}
    {f6 : Addr} {od6 an6 : Option Addr} {sl6 : Array (Option Value)} {oc6 kV6 dc6 pm6 cd6 ct6 : Value}
    {f7 : Addr} {od7 an7 : Option Addr} {sl7 : Array (Option Value)} {oc7 kV7 dc7 pm7 cd7 ct7 : Value}
    {f8 : Addr} {od8 an8 : Option Addr} {sl8 : Array (Option Value)} {oc8 kV8 dc8 pm8 cd8 ct8 : Value}
    {f9 : Addr} {od9 an9 : Option Addr} {sl9 : Array (Option Value)} {oc9 kV9 dc9 pm9 cd9 ct9 : Value}
    {f10 : Addr} {od10 an10 : Option Addr} {sl10 : Array (Option Value)} {oc10 kV10 dc10 pm10 cd10 ct10 : Value}
    {f11 : Addr} {od11 an11 : Option Addr} {sl11 : Array (Option Value)} {oc11 kV11 dc11 pm11 cd11 ct11 : Value}
    {f12 : Addr} {od12 an12 : Option Addr} {sl12 : Array (Option Value)} {oc12 kV12 dc12 pm12 cd12 ct12 : Value}
    {f13 : Addr} {od13 an13 : Option Addr} {sl13 : Array (Option Value)} {oc13 kV13 dc13 pm13 cd13 ct13 : Value}
    {f14 : Addr} {od14 an14 : Option Addr} {sl14 : Array (Option Value)} {oc14 kV14 dc14 pm14 cd14 ct14 : Value}
    {f15 : Addr} {od15 an15 : Option Addr} {sl15 : Array (Option Value)} {oc15 kV15 dc15 pm15 cd15 ct15 : Value}
    {f16 : Addr} {od16 an16 : Option Addr} {sl16 : Array (Option Value)} {oc16 kV16 dc16 pm16 cd16 ct16 : Value}
    {f17 : Addr} {od17 an17 : Option Addr} {sl17 : Array (Option Value)} {oc17 kV17 dc17 pm17 cd17 ct17 : Value}
    {f18 : Addr} {od18 an18 : Option Addr} {sl18 : Array (Option Value)} {oc18 kV18 dc18 pm18 cd18 ct18 : Value}
    {f19 : Addr} {od19 an19 : Option Addr} {sl19 : Array (Option Value)} {oc19 kV19 dc19 pm19 cd19 ct19 : Value}
    {f20 : Addr} {od20 an20 : Option Addr} {sl20 : Array (Option Value)} {oc20 kV20 dc20 pm20 cd20 ct20 : Value}
    {f21 : Addr} {od21 an21 : Option Addr} {sl21 : Array (Option Value)} {oc21 kV21 dc21 pm21 cd21 ct21 : Value}
    {f22 : Addr} {od22 an22 : Option Addr} {sl22 : Array (Option Value)} {oc22 kV22 dc22 pm22 cd22 ct22 : Value}
    {f23 : Addr} {od23 an23 : Option Addr} {sl23 : Array (Option Value)} {oc23 kV23 dc23 pm23 cd23 ct23 : Value}
    {f24 : Addr} {od24 an24 : Option Addr} {sl24 : Array (Option Value)} {oc24 kV24 dc24 pm24 cd24 ct24 : Value}
    {f25 : Addr} {od25 an25 : Option Addr} {sl25 : Array (Option Value)} {oc25 kV25 dc25 pm25 cd25 ct25 : Value}
    {f26 : Addr} {od26 an26 : Option Addr} {sl26 : Array (Option Value)} {oc26 kV26 dc26 pm26 cd26 ct26 : Value}
    {f27 : Addr} {od27 an27 : Option Addr} {sl27 : Array (Option Value)} {oc27 kV27 dc27 pm27 cd27 ct27 : Value}
    {f28 : Addr} {od28 an28 : Option Addr} {sl28 : Array (Option Value)} {oc28 kV28 dc28 pm28 cd28 ct28 : Value}
    {f29 : Addr} {od29 an29 : Option Addr} {sl29 : Array (Option Value)} {oc29 kV29 dc29 pm29 cd29 ct29 : Value}
    {f30 : Addr} {od30 an30 : Option Addr} {sl30 : Array (Option Value)} {oc30 kV30 dc30 pm30 cd30 ct30 : Value}
    {f31 : Addr} {od31 an31 : Option Addr} {sl31 : Array (Option Value)} {oc31 kV31 dc31 pm31 cd31 ct31 : Value}
    {f32 : Addr} {od32 an32 : Option Addr} {sl32 : Array (Option Value)} {oc32 kV32 dc32 pm32 cd32 ct32 : Value}
    {f33 : Addr} {od33 an33 : Option Addr} {sl33 : Array (Option Value)} {oc33 kV33 dc33 pm33 cd33 ct33 : Value}
    {f34 : Addr} {od34 an34 : Option Addr} {sl34 : Array (Option Value)} {oc34 kV34 dc34 pm34 cd34 ct34 : Value}
    {f35 : Addr} {od35 an35 : Option Addr} {sl35 : Array (Option Value)} {oc35 kV35 dc35 pm35 cd35 ct35 : Value}
    {f36 : Addr} {od36 an36 : Option Addr} {sl36 : Array (Option Value)} {oc36 kV36 dc36 pm36 cd36 ct36 : Value}
    {f37 : Addr} {od37 an37 : Option Addr} {sl37 : Array (Option Value)} {oc37 kV37 dc37 pm37 cd37 ct37 : Value}
    {f38 : Addr} {od38 an38 : Option Addr} {sl38 : Array (Option Value)} {oc38 kV38 dc38 pm38 cd38 ct38 : Value}
    {f39 : Addr} {od39 an39 : Option Addr} {sl39 : Array (Option Value)} {oc39 kV39 dc39 pm39 cd39 ct39 : Value}
    {f40 : Addr} {od40 an40 : Option Addr} {sl40 : Array (Option Value)} {oc40 kV40 dc40 pm40 cd40 ct40 : Value}
    {f41 : Addr} {od41 an41 : Option Addr} {sl41 : Array (Option Value)} {oc41 kV41 dc41 pm41 cd41 ct41 : Value}
    {f42 : Addr} {od42 an42 : Option Addr} {sl42 : Array (Option Value)} {oc42 kV42 dc42 pm42 cd42 ct42 : Value}
    {f43 : Addr} {od43 an43 : Option Addr} {sl43 : Array (Option Value)} {oc43 kV43 dc43 pm43 cd43 ct43 : Value}
    {f44 : Addr} {od44 an44 : Option Addr} {sl44 : Array (Option Value)} {oc44 kV44 dc44 pm44 cd44 ct44 : Value}
    {f45 : Addr} {od45 an45 : Option Addr} {sl45 : Array (Option Value)} {oc45 kV45 dc45 pm45 cd45 ct45 : Value}
    {f46 : Addr} {od46 an46 : Option Addr} {sl46 : Array (Option Value)} {oc46 kV46 dc46 pm46 cd46 ct46 : Value}
    {f47 : Addr} {od47 an47 : Option Addr} {sl47 : Array (Option Value)} {oc47 kV47 dc47 pm47 cd47 ct47 : Value}
    {t0 : Tok}
    {t1 : Tok}
    {C0 : Addr}
    {C1 : Addr}
    {C2 : Addr}
    {C3 : Addr}
    {C4 : Addr}
    {C5 : Addr}
    {C6 : Addr}
    {V0 : Addr}
    {Y0 : Addr}
    {Y1 : Addr}
    {Y2 : Addr}
    {Y3 : Addr}
    {Y4 : Addr}
    {Y5 : Addr}
    {fm0 : Addr} {odm0 anm0 : Option Addr} {slm0 : Array (Option Value)} {ocm0 kVm0 dcm0 pmm0 cdm0 ctm0 : Value}
    {fm1 : Addr} {odm1 anm1 : Option Addr} {slm1 : Array (Option Value)} {ocm1 kVm1 dcm1 pmm1 cdm1 ctm1 : Value}
    {fm2 : Addr} {odm2 anm2 : Option Addr} {slm2 : Array (Option Value)} {ocm2 kVm2 dcm2 pmm2 cdm2 ctm2 : Value}
    {fm3 : Addr} {odm3 anm3 : Option Addr} {slm3 : Array (Option Value)} {ocm3 kVm3 dcm3 pmm3 cdm3 ctm3 : Value}
    {fm4 : Addr} {odm4 anm4 : Option Addr} {slm4 : Array (Option Value)} {ocm4 kVm4 dcm4 pmm4 cdm4 ctm4 : Value}
    {fm5 : Addr} {odm5 anm5 : Option Addr} {slm5 : Array (Option Value)} {ocm5 kVm5 dcm5 pmm5 cdm5 ctm5 : Value}
    {fm6 : Addr} {odm6 anm6 : Option Addr} {slm6 : Array (Option Value)} {ocm6 kVm6 dcm6 pmm6 cdm6 ctm6 : Value}
    {fm7 : Addr} {odm7 anm7 : Option Addr} {slm7 : Array (Option Value)} {ocm7 kVm7 dcm7 pmm7 cdm7 ctm7 : Value}
    {fm8 : Addr} {odm8 anm8 : Option Addr} {slm8 : Array (Option Value)} {ocm8 kVm8 dcm8 pmm8 cdm8 ctm8 : Value}
    {fm9 : Addr} {odm9 anm9 : Option Addr} {slm9 : Array (Option Value)} {ocm9 kVm9 dcm9 pmm9 cdm9 ctm9 : Value}
    {fm10 : Addr} {odm10 anm10 : Option Addr} {slm10 : Array (Option Value)} {ocm10 kVm10 dcm10 pmm10 cdm10 ctm10 : Value}
    {fm11 : Addr} {odm11 anm11 : Option Addr} {slm11 : Array (Option Value)} {ocm11 kVm11 dcm11 pmm11 cdm11 ctm11 : Value}
    {fm12 : Addr} {odm12 anm12 : Option Addr} {slm12 : Array (Option Value)} {ocm12 kVm12 dcm12 pmm12 cdm12 ctm12 : Value}
    {fm13 : Addr} {odm13 anm13 : Option Addr} {slm13 : Array (Option Value)} {ocm13 kVm13 dcm13 pmm13 cdm13 ctm13 : Value}
    {fm14 : Addr} {odm14 anm14 : Option Addr} {slm14 : Array (Option Value)} {ocm14 kVm14 dcm14 pmm14 cdm14 ctm14 : Value}
    {fm15 : Addr} {odm15 anm15 : Option Addr} {slm15 : Array (Option Value)} {ocm15 kVm15 dcm15 pmm15 cdm15 ctm15 : Value}
    {fm16 : Addr} {odm16 anm16 : Option Addr} {slm16 : Array (Option Value)} {ocm16 kVm16 dcm16 pmm16 cdm16 ctm16 : Value}
    {GT0 : Addr} {gtd0 : Option Addr} {gtm0 : Nat} {gtl0 : Array (Option Value)} {gt0_0 gt0_1 gt0_2 gt0_3 gt0_4 gt0_5 gt0_6 gt0_7 gt0_8 gt0_9 : Tok}
    (a0 : PySem.W.nsIn K mainGlobals "is_whole" = some (some (.ref f0))) (l0 : K.lookup f0 = some ⟨oc0, od0, .func (PySem.W.fnOf "is_whole" "is_whole" (defArgs st_is_whole) (defBody st_is_whole) (defScope st_is_whole) .none kV0 dc0 pm0 an0 cd0 ct0), sl0⟩) (c0 : PySem.W.codeIn K cd0 "is_whole" = true) (k0 : PySem.W.keepIn K (.ref f0) = true)
    (a1 : PySem.W.nsIn K mainGlobals "is_prime" = some (some (.ref f1))) (l1 : K.lookup f1 = some ⟨oc1, od1, .func (PySem.W.fnOf "is_prime" "is_prime" (defArgs st_is_prime) (defBody st_is_prime) (defScope st_is_prime) .none kV1 dc1 pm1 an1 cd1 ct1), sl1⟩) (c1 : PySem.W.codeIn K cd1 "is_prime" = true) (k1 : PySem.W.keepIn K (.ref f1) = true)
    (a2 : PySem.W.nsIn K mainGlobals "power_of" = some (some (.ref f2))) (l2 : K.lookup f2 = some ⟨oc2, od2, .func (PySem.W.fnOf "power_of" "power_of" (defArgs st_power_of) (defBody st_power_of) (defScope st_power_of) .none kV2 dc2 pm2 an2 cd2 ct2), sl2⟩) (c2 : PySem.W.codeIn K cd2 "power_of" = true) (k2 : PySem.W.keepIn K (.ref f2) = true)
    (a3 : PySem.W.nsIn K mainGlobals "exponent" = some (some (.ref f3))) (l3 : K.lookup f3 = some ⟨oc3, od3, .func (PySem.W.fnOf "exponent" "exponent" (defArgs st_exponent) (defBody st_exponent) (defScope st_exponent) .none kV3 dc3 pm3 an3 cd3 ct3), sl3⟩) (c3 : PySem.W.codeIn K cd3 "exponent" = true) (k3 : PySem.W.keepIn K (.ref f3) = true)
    (a4 : PySem.W.nsIn K mainGlobals "divisor" = some (some (.ref f4))) (l4 : K.lookup f4 = some ⟨oc4, od4, .func (PySem.W.fnOf "divisor" "divisor" (defArgs st_divisor) (defBody st_divisor) (defScope st_divisor) .none kV4 dc4 pm4 an4 cd4 ct4), sl4⟩) (c4 : PySem.W.codeIn K cd4 "divisor" = true) (k4 : PySem.W.keepIn K (.ref f4) = true)
    (a5 : PySem.W.nsIn K mainGlobals "fraction" = some (some (.ref f5))) (l5 : K.lookup f5 = some ⟨oc5, od5, .func (PySem.W.fnOf "fraction" "fraction" (defArgs st_fraction) (defBody st_fraction) (defScope st_fraction) (.ref T5) kV5 dc5 pm5 an5 cd5 ct5), sl5⟩) (c5 : PySem.W.codeIn K cd5 "fraction" = true) (k5 : PySem.W.keepIn K (.ref f5) = true) (lt5 : K.lookup T5 = some ⟨tc5, td5, .seq #[.int 1 tt5] tm5, tl5⟩)
    (a6 : PySem.W.nsIn K mainGlobals "is_fraction" = some (some (.ref f6))) (l6 : K.lookup f6 = some ⟨oc6, od6, .func (PySem.W.fnOf "is_fraction" "is_fraction" (defArgs st_is_fraction) (defBody st_is_fraction) (defScope st_is_fraction) .none kV6 dc6 pm6 an6 cd6 ct6), sl6⟩) (c6 : PySem.W.codeIn K cd6 "is_fraction" = true) (k6 : PySem.W.keepIn K (.ref f6) = true)
    (a7 : PySem.W.nsIn K mainGlobals "plus_fraction" = some (some (.ref f7))) (l7 : K.lookup f7 = some ⟨oc7, od7, .func (PySem.W.fnOf "plus_fraction" "plus_fraction" (defArgs st_plus_fraction) (defBody st_plus_fraction) (defScope st_plus_fraction) .none kV7 dc7 pm7 an7 cd7 ct7), sl7⟩) (c7 : PySem.W.codeIn K cd7 "plus_fraction" = true) (k7 : PySem.W.keepIn K (.ref f7) = true)
    (a8 : PySem.W.nsIn K mainGlobals "minus_fraction" = some (some (.ref f8))) (l8 : K.lookup f8 = some ⟨oc8, od8, .func (PySem.W.fnOf "minus_fraction" "minus_fraction" (defArgs st_minus_fraction) (defBody st_minus_fraction) (defScope st_minus_fraction) .none kV8 dc8 pm8 an8 cd8 ct8), sl8⟩) (c8 : PySem.W.codeIn K cd8 "minus_fraction" = true) (k8 : PySem.W.keepIn K (.ref f8) = true)
    (a9 : PySem.W.nsIn K mainGlobals "times_fraction" = some (some (.ref f9))) (l9 : K.lookup f9 = some ⟨oc9, od9, .func (PySem.W.fnOf "times_fraction" "times_fraction" (defArgs st_times_fraction) (defBody st_times_fraction) (defScope st_times_fraction) .none kV9 dc9 pm9 an9 cd9 ct9), sl9⟩) (c9 : PySem.W.codeIn K cd9 "times_fraction" = true) (k9 : PySem.W.keepIn K (.ref f9) = true)
    (a10 : PySem.W.nsIn K mainGlobals "over_fraction" = some (some (.ref f10))) (l10 : K.lookup f10 = some ⟨oc10, od10, .func (PySem.W.fnOf "over_fraction" "over_fraction" (defArgs st_over_fraction) (defBody st_over_fraction) (defScope st_over_fraction) .none kV10 dc10 pm10 an10 cd10 ct10), sl10⟩) (c10 : PySem.W.codeIn K cd10 "over_fraction" = true) (k10 : PySem.W.keepIn K (.ref f10) = true)
    (a11 : PySem.W.nsIn K mainGlobals "exponent_of" = some (some (.ref f11))) (l11 : K.lookup f11 = some ⟨oc11, od11, .func (PySem.W.fnOf "exponent_of" "exponent_of" (defArgs st_exponent_of) (defBody st_exponent_of) (defScope st_exponent_of) .none kV11 dc11 pm11 an11 cd11 ct11), sl11⟩) (c11 : PySem.W.codeIn K cd11 "exponent_of" = true) (k11 : PySem.W.keepIn K (.ref f11) = true)
    (a12 : PySem.W.nsIn K mainGlobals "are_figures" = some (some (.ref f12))) (l12 : K.lookup f12 = some ⟨oc12, od12, .func (PySem.W.fnOf "are_figures" "are_figures" (defArgs st_are_figures) (defBody st_are_figures) (defScope st_are_figures) .none kV12 dc12 pm12 an12 cd12 ct12), sl12⟩) (c12 : PySem.W.codeIn K cd12 "are_figures" = true) (k12 : PySem.W.keepIn K (.ref f12) = true)
    (a13 : PySem.W.nsIn K mainGlobals "left_number" = some (some (.ref f13))) (l13 : K.lookup f13 = some ⟨oc13, od13, .func (PySem.W.fnOf "left_number" "left_number" (defArgs st_left_number) (defBody st_left_number) (defScope st_left_number) .none kV13 dc13 pm13 an13 cd13 ct13), sl13⟩) (c13 : PySem.W.codeIn K cd13 "left_number" = true) (k13 : PySem.W.keepIn K (.ref f13) = true)
    (a14 : PySem.W.nsIn K mainGlobals "is_left" = some (some (.ref f14))) (l14 : K.lookup f14 = some ⟨oc14, od14, .func (PySem.W.fnOf "is_left" "is_left" (defArgs st_is_left) (defBody st_is_left) (defScope st_is_left) .none kV14 dc14 pm14 an14 cd14 ct14), sl14⟩) (c14 : PySem.W.codeIn K cd14 "is_left" = true) (k14 : PySem.W.keepIn K (.ref f14) = true)
    (a15 : PySem.W.nsIn K mainGlobals "end_of" = some (some (.ref f15))) (l15 : K.lookup f15 = some ⟨oc15, od15, .func (PySem.W.fnOf "end_of" "end_of" (defArgs st_end_of) (defBody st_end_of) (defScope st_end_of) .none kV15 dc15 pm15 an15 cd15 ct15), sl15⟩) (c15 : PySem.W.codeIn K cd15 "end_of" = true) (k15 : PySem.W.keepIn K (.ref f15) = true)
    (a16 : PySem.W.nsIn K mainGlobals "known_of" = some (some (.ref f16))) (l16 : K.lookup f16 = some ⟨oc16, od16, .func (PySem.W.fnOf "known_of" "known_of" (defArgs st_known_of) (defBody st_known_of) (defScope st_known_of) .none kV16 dc16 pm16 an16 cd16 ct16), sl16⟩) (c16 : PySem.W.codeIn K cd16 "known_of" = true) (k16 : PySem.W.keepIn K (.ref f16) = true)
    (a17 : PySem.W.nsIn K mainGlobals "unit_of" = some (some (.ref f17))) (l17 : K.lookup f17 = some ⟨oc17, od17, .func (PySem.W.fnOf "unit_of" "unit_of" (defArgs st_unit_of) (defBody st_unit_of) (defScope st_unit_of) .none kV17 dc17 pm17 an17 cd17 ct17), sl17⟩) (c17 : PySem.W.codeIn K cd17 "unit_of" = true) (k17 : PySem.W.keepIn K (.ref f17) = true)
    (a18 : PySem.W.nsIn K mainGlobals "of_whole" = some (some (.ref f18))) (l18 : K.lookup f18 = some ⟨oc18, od18, .func (PySem.W.fnOf "of_whole" "of_whole" (defArgs st_of_whole) (defBody st_of_whole) (defScope st_of_whole) .none kV18 dc18 pm18 an18 cd18 ct18), sl18⟩) (c18 : PySem.W.codeIn K cd18 "of_whole" = true) (k18 : PySem.W.keepIn K (.ref f18) = true)
    (a19 : PySem.W.nsIn K mainGlobals "want_alike" = some (some (.ref f19))) (l19 : K.lookup f19 = some ⟨oc19, od19, .func (PySem.W.fnOf "want_alike" "want_alike" (defArgs st_want_alike) (defBody st_want_alike) (defScope st_want_alike) .none kV19 dc19 pm19 an19 cd19 ct19), sl19⟩) (c19 : PySem.W.codeIn K cd19 "want_alike" = true) (k19 : PySem.W.keepIn K (.ref f19) = true)
    (a20 : PySem.W.nsIn K mainGlobals "cut_at" = some (some (.ref f20))) (l20 : K.lookup f20 = some ⟨oc20, od20, .func (PySem.W.fnOf "cut_at" "cut_at" (defArgs st_cut_at) (defBody st_cut_at) (defScope st_cut_at) .none kV20 dc20 pm20 an20 cd20 ct20), sl20⟩) (c20 : PySem.W.codeIn K cd20 "cut_at" = true) (k20 : PySem.W.keepIn K (.ref f20) = true)
    (a21 : PySem.W.nsIn K mainGlobals "bared" = some (some (.ref f21))) (l21 : K.lookup f21 = some ⟨oc21, od21, .func (PySem.W.fnOf "bared" "bared" (defArgs st_bared) (defBody st_bared) (defScope st_bared) .none kV21 dc21 pm21 an21 cd21 ct21), sl21⟩) (c21 : PySem.W.codeIn K cd21 "bared" = true) (k21 : PySem.W.keepIn K (.ref f21) = true)
    (a22 : PySem.W.nsIn K mainGlobals "figures_of" = some (some (.ref f22))) (l22 : K.lookup f22 = some ⟨oc22, od22, .func (PySem.W.fnOf "figures_of" "figures_of" (defArgs st_figures_of) (defBody st_figures_of) (defScope st_figures_of) .none kV22 dc22 pm22 an22 cd22 ct22), sl22⟩) (c22 : PySem.W.codeIn K cd22 "figures_of" = true) (k22 : PySem.W.keepIn K (.ref f22) = true)
    (a23 : PySem.W.nsIn K mainGlobals "seen_left" = some (some (.ref f23))) (l23 : K.lookup f23 = some ⟨oc23, od23, .func (PySem.W.fnOf "seen_left" "seen_left" (defArgs st_seen_left) (defBody st_seen_left) (defScope st_seen_left) .none kV23 dc23 pm23 an23 cd23 ct23), sl23⟩) (c23 : PySem.W.codeIn K cd23 "seen_left" = true) (k23 : PySem.W.keepIn K (.ref f23) = true)
    (a24 : PySem.W.nsIn K mainGlobals "plus" = some (some (.ref f24))) (l24 : K.lookup f24 = some ⟨oc24, od24, .func (PySem.W.fnOf "plus" "plus" (defArgs st_plus) (defBody st_plus) (defScope st_plus) .none kV24 dc24 pm24 an24 cd24 ct24), sl24⟩) (c24 : PySem.W.codeIn K cd24 "plus" = true) (k24 : PySem.W.keepIn K (.ref f24) = true)
    (a25 : PySem.W.nsIn K mainGlobals "opposite" = some (some (.ref f25))) (l25 : K.lookup f25 = some ⟨oc25, od25, .func (PySem.W.fnOf "opposite" "opposite" (defArgs st_opposite) (defBody st_opposite) (defScope st_opposite) .none kV25 dc25 pm25 an25 cd25 ct25), sl25⟩) (c25 : PySem.W.codeIn K cd25 "opposite" = true) (k25 : PySem.W.keepIn K (.ref f25) = true)
    (a26 : PySem.W.nsIn K mainGlobals "minus" = some (some (.ref f26))) (l26 : K.lookup f26 = some ⟨oc26, od26, .func (PySem.W.fnOf "minus" "minus" (defArgs st_minus) (defBody st_minus) (defScope st_minus) .none kV26 dc26 pm26 an26 cd26 ct26), sl26⟩) (c26 : PySem.W.codeIn K cd26 "minus" = true) (k26 : PySem.W.keepIn K (.ref f26) = true)
    (a27 : PySem.W.nsIn K mainGlobals "multiplied" = some (some (.ref f27))) (l27 : K.lookup f27 = some ⟨oc27, od27, .func (PySem.W.fnOf "multiplied" "multiplied" (defArgs st_multiplied) (defBody st_multiplied) (defScope st_multiplied) .none kV27 dc27 pm27 an27 cd27 ct27), sl27⟩) (c27 : PySem.W.codeIn K cd27 "multiplied" = true) (k27 : PySem.W.keepIn K (.ref f27) = true)
    (a28 : PySem.W.nsIn K mainGlobals "turned_over" = some (some (.ref f28))) (l28 : K.lookup f28 = some ⟨oc28, od28, .func (PySem.W.fnOf "turned_over" "turned_over" (defArgs st_turned_over) (defBody st_turned_over) (defScope st_turned_over) .none kV28 dc28 pm28 an28 cd28 ct28), sl28⟩) (c28 : PySem.W.codeIn K cd28 "turned_over" = true) (k28 : PySem.W.keepIn K (.ref f28) = true)
    (a29 : PySem.W.nsIn K mainGlobals "divided" = some (some (.ref f29))) (l29 : K.lookup f29 = some ⟨oc29, od29, .func (PySem.W.fnOf "divided" "divided" (defArgs st_divided) (defBody st_divided) (defScope st_divided) .none kV29 dc29 pm29 an29 cd29 ct29), sl29⟩) (c29 : PySem.W.codeIn K cd29 "divided" = true) (k29 : PySem.W.keepIn K (.ref f29) = true)
    (a30 : PySem.W.nsIn K mainGlobals "known_of_power" = some (some (.ref f30))) (l30 : K.lookup f30 = some ⟨oc30, od30, .func (PySem.W.fnOf "known_of_power" "known_of_power" (defArgs st_known_of_power) (defBody st_known_of_power) (defScope st_known_of_power) .none kV30 dc30 pm30 an30 cd30 ct30), sl30⟩) (c30 : PySem.W.codeIn K cd30 "known_of_power" = true) (k30 : PySem.W.keepIn K (.ref f30) = true)
    (a31 : PySem.W.nsIn K mainGlobals "often" = some (some (.ref f31))) (l31 : K.lookup f31 = some ⟨oc31, od31, .func (PySem.W.fnOf "often" "often" (defArgs st_often) (defBody st_often) (defScope st_often) .none kV31 dc31 pm31 an31 cd31 ct31), sl31⟩) (c31 : PySem.W.codeIn K cd31 "often" = true) (k31 : PySem.W.keepIn K (.ref f31) = true)
    (a32 : PySem.W.nsIn K mainGlobals "raised" = some (some (.ref f32))) (l32 : K.lookup f32 = some ⟨oc32, od32, .func (PySem.W.fnOf "raised" "raised" (defArgs st_raised) (defBody st_raised) (defScope st_raised) .none kV32 dc32 pm32 an32 cd32 ct32), sl32⟩) (c32 : PySem.W.codeIn K cd32 "raised" = true) (k32 : PySem.W.keepIn K (.ref f32) = true)
    (a33 : PySem.W.nsIn K mainGlobals "tried" = some (some (.ref f33))) (l33 : K.lookup f33 = some ⟨oc33, od33, .func (PySem.W.fnOf "tried" "tried" (defArgs st_tried) (defBody st_tried) (defScope st_tried) .none kV33 dc33 pm33 an33 cd33 ct33), sl33⟩) (c33 : PySem.W.codeIn K cd33 "tried" = true) (k33 : PySem.W.keepIn K (.ref f33) = true)
    (a34 : PySem.W.nsIn K mainGlobals "worked_out" = some (some (.ref f34))) (l34 : K.lookup f34 = some ⟨oc34, od34, .func (PySem.W.fnOf "worked_out" "worked_out" (defArgs st_worked_out) (defBody st_worked_out) (defScope st_worked_out) .none kV34 dc34 pm34 an34 cd34 ct34), sl34⟩) (c34 : PySem.W.codeIn K cd34 "worked_out" = true) (k34 : PySem.W.keepIn K (.ref f34) = true)
    (a35 : PySem.W.nsIn K mainGlobals "_law_cell_at" = some (some (.ref f35))) (l35 : K.lookup f35 = some ⟨oc35, od35, .func (PySem.W.fnOf "_law_cell_at" "_law_cell_at" (defArgs st__law_cell_at) (defBody st__law_cell_at) (defScope st__law_cell_at) .none kV35 dc35 pm35 an35 cd35 ct35), sl35⟩) (c35 : PySem.W.codeIn K cd35 "_law_cell_at" = true) (k35 : PySem.W.keepIn K (.ref f35) = true)
    (a36 : PySem.W.nsIn K mainGlobals "_law_prime" = some (some (.ref f36))) (l36 : K.lookup f36 = some ⟨oc36, od36, .func (PySem.W.fnOf "_law_prime" "_law_prime" (defArgs st__law_prime) (defBody st__law_prime) (defScope st__law_prime) .none kV36 dc36 pm36 an36 cd36 ct36), sl36⟩) (c36 : PySem.W.codeIn K cd36 "_law_prime" = true) (k36 : PySem.W.keepIn K (.ref f36) = true)
    (a37 : PySem.W.nsIn K mainGlobals "_law_times" = some (some (.ref f37))) (l37 : K.lookup f37 = some ⟨oc37, od37, .func (PySem.W.fnOf "_law_times" "_law_times" (defArgs st__law_times) (defBody st__law_times) (defScope st__law_times) .none kV37 dc37 pm37 an37 cd37 ct37), sl37⟩) (c37 : PySem.W.codeIn K cd37 "_law_times" = true) (k37 : PySem.W.keepIn K (.ref f37) = true)
    (a38 : PySem.W.nsIn K mainGlobals "_law_lowest" = some (some (.ref f38))) (l38 : K.lookup f38 = some ⟨oc38, od38, .func (PySem.W.fnOf "_law_lowest" "_law_lowest" (defArgs st__law_lowest) (defBody st__law_lowest) (defScope st__law_lowest) .none kV38 dc38 pm38 an38 cd38 ct38), sl38⟩) (c38 : PySem.W.codeIn K cd38 "_law_lowest" = true) (k38 : PySem.W.keepIn K (.ref f38) = true)
    (a39 : PySem.W.nsIn K mainGlobals "_law_part" = some (some (.ref f39))) (l39 : K.lookup f39 = some ⟨oc39, od39, .func (PySem.W.fnOf "_law_part" "_law_part" (defArgs st__law_part) (defBody st__law_part) (defScope st__law_part) .none kV39 dc39 pm39 an39 cd39 ct39), sl39⟩) (c39 : PySem.W.codeIn K cd39 "_law_part" = true) (k39 : PySem.W.keepIn K (.ref f39) = true)
    (a40 : PySem.W.nsIn K mainGlobals "_law_of_two" = some (some (.ref f40))) (l40 : K.lookup f40 = some ⟨oc40, od40, .func (PySem.W.fnOf "_law_of_two" "_law_of_two" (defArgs st__law_of_two) (defBody st__law_of_two) (defScope st__law_of_two) .none kV40 dc40 pm40 an40 cd40 ct40), sl40⟩) (c40 : PySem.W.codeIn K cd40 "_law_of_two" = true) (k40 : PySem.W.keepIn K (.ref f40) = true)
    (a41 : PySem.W.nsIn K mainGlobals "_law_room" = some (some (.ref f41))) (l41 : K.lookup f41 = some ⟨oc41, od41, .func (PySem.W.fnOf "_law_room" "_law_room" (defArgs st__law_room) (defBody st__law_room) (defScope st__law_room) .none kV41 dc41 pm41 an41 cd41 ct41), sl41⟩) (c41 : PySem.W.codeIn K cd41 "_law_room" = true) (k41 : PySem.W.keepIn K (.ref f41) = true)
    (a42 : PySem.W.nsIn K mainGlobals "_law_term" = some (some (.ref f42))) (l42 : K.lookup f42 = some ⟨oc42, od42, .func (PySem.W.fnOf "_law_term" "_law_term" (defArgs st__law_term) (defBody st__law_term) (defScope st__law_term) .none kV42 dc42 pm42 an42 cd42 ct42), sl42⟩) (c42 : PySem.W.codeIn K cd42 "_law_term" = true) (k42 : PySem.W.keepIn K (.ref f42) = true)
    (a43 : PySem.W.nsIn K mainGlobals "_law_small" = some (some (.ref f43))) (l43 : K.lookup f43 = some ⟨oc43, od43, .func (PySem.W.fnOf "_law_small" "_law_small" (defArgs st__law_small) (defBody st__law_small) (defScope st__law_small) .none kV43 dc43 pm43 an43 cd43 ct43), sl43⟩) (c43 : PySem.W.codeIn K cd43 "_law_small" = true) (k43 : PySem.W.keepIn K (.ref f43) = true)
    (a44 : PySem.W.nsIn K mainGlobals "_law_near" = some (some (.ref f44))) (l44 : K.lookup f44 = some ⟨oc44, od44, .func (PySem.W.fnOf "_law_near" "_law_near" (defArgs st__law_near) (defBody st__law_near) (defScope st__law_near) .none kV44 dc44 pm44 an44 cd44 ct44), sl44⟩) (c44 : PySem.W.codeIn K cd44 "_law_near" = true) (k44 : PySem.W.keepIn K (.ref f44) = true)
    (a45 : PySem.W.nsIn K mainGlobals "_law_enough" = some (some (.ref f45))) (l45 : K.lookup f45 = some ⟨oc45, od45, .func (PySem.W.fnOf "_law_enough" "_law_enough" (defArgs st__law_enough) (defBody st__law_enough) (defScope st__law_enough) .none kV45 dc45 pm45 an45 cd45 ct45), sl45⟩) (c45 : PySem.W.codeIn K cd45 "_law_enough" = true) (k45 : PySem.W.keepIn K (.ref f45) = true)
    (a46 : PySem.W.nsIn K mainGlobals "_law_refused" = some (some (.ref f46))) (l46 : K.lookup f46 = some ⟨oc46, od46, .func (PySem.W.fnOf "_law_refused" "_law_refused" (defArgs st__law_refused) (defBody st__law_refused) (defScope st__law_refused) .none kV46 dc46 pm46 an46 cd46 ct46), sl46⟩) (c46 : PySem.W.codeIn K cd46 "_law_refused" = true) (k46 : PySem.W.keepIn K (.ref f46) = true)
    (a47 : PySem.W.nsIn K mainGlobals "law" = some (some (.ref f47))) (l47 : K.lookup f47 = some ⟨oc47, od47, .func (PySem.W.fnOf "law" "law" (defArgs st_law) (defBody st_law) (defScope st_law) .none kV47 dc47 pm47 an47 cd47 ct47), sl47⟩) (c47 : PySem.W.codeIn K cd47 "law" = true) (k47 : PySem.W.keepIn K (.ref f47) = true)
    (z0 : PySem.W.nsIn K mainGlobals "abs" = some none)
    (z1 : PySem.W.nsIn K mainGlobals "all" = some none)
    (z2 : PySem.W.nsIn K mainGlobals "bool" = some none)
    (z3 : PySem.W.nsIn K mainGlobals "divmod" = some none)
    (z4 : PySem.W.nsIn K mainGlobals "int" = some none)
    (z5 : PySem.W.nsIn K mainGlobals "isinstance" = some none)
    (z6 : PySem.W.nsIn K mainGlobals "len" = some none)
    (z7 : PySem.W.nsIn K mainGlobals "list" = some none)
    (z8 : PySem.W.nsIn K mainGlobals "max" = some none)
    (z9 : PySem.W.nsIn K mainGlobals "min" = some none)
    (z10 : PySem.W.nsIn K mainGlobals "range" = some none)
    (z11 : PySem.W.nsIn K mainGlobals "reversed" = some none)
    (z12 : PySem.W.nsIn K mainGlobals "sum" = some none)
    (z13 : PySem.W.nsIn K mainGlobals "tuple" = some none)
    (g0 : PySem.W.nsIn K mainGlobals "MOST_PRIME" = some (some (.int 97 t0)))
    (g1 : PySem.W.nsIn K mainGlobals "MOST_TIMES" = some (some (.int 1000 t1)))
    (xa0 : PySem.W.nsIn K mainGlobals "NoFigures" = some (some (.ref C0))) (xe0 : PySem.W.excIn K C0 [.type "ValueError", .type "Exception", .type "BaseException", .type "object"] "ValueError.__new__" = true) (xk0 : PySem.W.keepIn K (.ref C0) = true) (xs0 : PySem.W.subIn K (.ref C0) (.type "BaseException") = some true) (xt0 : PySem.W.typeIn K (.ref C0) = some (.type "type"))
    (xa1 : PySem.W.nsIn K mainGlobals "NoFraction" = some (some (.ref C1))) (xe1 : PySem.W.excIn K C1 [.type "ValueError", .type "Exception", .type "BaseException", .type "object"] "ValueError.__new__" = true) (xk1 : PySem.W.keepIn K (.ref C1) = true) (xs1 : PySem.W.subIn K (.ref C1) (.type "BaseException") = some true) (xt1 : PySem.W.typeIn K (.ref C1) = some (.type "type"))
    (xa2 : PySem.W.nsIn K mainGlobals "NoPlace" = some (some (.ref C2))) (xe2 : PySem.W.excIn K C2 [.type "ValueError", .type "Exception", .type "BaseException", .type "object"] "ValueError.__new__" = true) (xk2 : PySem.W.keepIn K (.ref C2) = true) (xs2 : PySem.W.subIn K (.ref C2) (.type "BaseException") = some true) (xt2 : PySem.W.typeIn K (.ref C2) = some (.type "type"))
    (xa3 : PySem.W.nsIn K mainGlobals "NoPower" = some (some (.ref C3))) (xe3 : PySem.W.excIn K C3 [.type "ValueError", .type "Exception", .type "BaseException", .type "object"] "ValueError.__new__" = true) (xk3 : PySem.W.keepIn K (.ref C3) = true) (xs3 : PySem.W.subIn K (.ref C3) (.type "BaseException") = some true) (xt3 : PySem.W.typeIn K (.ref C3) = some (.type "type"))
    (xa4 : PySem.W.nsIn K mainGlobals "NoPrime" = some (some (.ref C4))) (xe4 : PySem.W.excIn K C4 [.type "ValueError", .type "Exception", .type "BaseException", .type "object"] "ValueError.__new__" = true) (xk4 : PySem.W.keepIn K (.ref C4) = true) (xs4 : PySem.W.subIn K (.ref C4) (.type "BaseException") = some true) (xt4 : PySem.W.typeIn K (.ref C4) = some (.type "type"))
    (xa5 : PySem.W.nsIn K mainGlobals "NoQuotient" = some (some (.ref C5))) (xe5 : PySem.W.excIn K C5 [.type "ValueError", .type "Exception", .type "BaseException", .type "object"] "ValueError.__new__" = true) (xk5 : PySem.W.keepIn K (.ref C5) = true) (xs5 : PySem.W.subIn K (.ref C5) (.type "BaseException") = some true) (xt5 : PySem.W.typeIn K (.ref C5) = some (.type "type"))
    (xa6 : PySem.W.nsIn K mainGlobals "Unlike" = some (some (.ref C6))) (xe6 : PySem.W.excIn K C6 [.type "ValueError", .type "Exception", .type "BaseException", .type "object"] "ValueError.__new__" = true) (xk6 : PySem.W.keepIn K (.ref C6) = true) (xs6 : PySem.W.subIn K (.ref C6) (.type "BaseException") = some true) (xt6 : PySem.W.typeIn K (.ref C6) = some (.type "type"))
    (va0 : PySem.W.nsIn K mainGlobals "NoQuotient" = some (some (.ref V0))) (vb0 : PySem.W.subIn K (.ref V0) (.type "BaseException") = some true) (vd0 : PySem.W.hasDictIn K V0 = true) (vt0 : PySem.W.typeIn K (.ref V0) = some (.type "type")) (vs0 : PySem.W.subIn K (.ref V0) (.ref V0) = some true)
    (zq6 : PySem.W.specialIn K (.builtin "object.__class__") "__get__" = some (some (.builtin "getset_descriptor.__get__"))) (zq7 : PySem.W.takesIn K (.builtin "object.__class__") = some true)
    (ya0 : PySem.W.nsIn K mainGlobals "Part" = some (some (.ref Y0)))
    (ya1 : PySem.W.nsIn K mainGlobals "Sum" = some (some (.ref Y1)))
    (ya2 : PySem.W.nsIn K mainGlobals "Difference" = some (some (.ref Y2)))
    (ya3 : PySem.W.nsIn K mainGlobals "Product" = some (some (.ref Y3)))
    (ya4 : PySem.W.nsIn K mainGlobals "Quotient" = some (some (.ref Y4)))
    (ya5 : PySem.W.nsIn K mainGlobals "Power" = some (some (.ref Y5)))
    (yz : [Y0, Y1, Y2, Y3, Y4, Y5].Nodup)
    (yb0 : PySem.W.plainGet K Y0 Str.empty = true)
    (yc0 : PySem.W.hasDictIn K Y0 = true)
    (yd0 : PySem.W.plainOver K Y0 = true)
    (ye0 : PySem.W.findIn K (.ref Y0) "__setattr__" = some (some (.builtin "object.__setattr__")))
    (yf0 : PySem.W.findIn K (.ref Y0) "__class__" = some (some (.builtin "object.__class__")))
    (yg0 : PySem.W.mroIn K Y0 (.type "object") = some true)
    (yh0_0 : PySem.W.kitOne K (.ref Y0) (.type "int") = some false)
    (yh0_1 : PySem.W.kitOne K (.ref Y0) (.type "bool") = some false)
    (yh0_2 : PySem.W.kitOne K (.ref Y0) (.type "str") = some false)
    (yh0_3 : PySem.W.kitOne K (.ref Y0) (.type "tuple") = some false)
    (yh0_4 : PySem.W.kitOne K (.ref Y0) (.type "list") = some false)
    (yh0_5 : PySem.W.kitOne K (.ref Y0) (.type "dict") = some false)
    (yn0_0 : PySem.W.findIn K (.ref Y0) "part" = some none)
    (yn0_1 : PySem.W.findIn K (.ref Y0) "one" = some none)
    (yn0_2 : PySem.W.findIn K (.ref Y0) "other" = some none)
    (yn0_3 : PySem.W.findIn K (.ref Y0) "n" = some none)
    (yb1 : PySem.W.plainGet K Y1 Str.empty = true)
    (yc1 : PySem.W.hasDictIn K Y1 = true)
    (yd1 : PySem.W.plainOver K Y1 = true)
    (ye1 : PySem.W.findIn K (.ref Y1) "__setattr__" = some (some (.builtin "object.__setattr__")))
    (yf1 : PySem.W.findIn K (.ref Y1) "__class__" = some (some (.builtin "object.__class__")))
    (yg1 : PySem.W.mroIn K Y1 (.type "object") = some true)
    (yh1_0 : PySem.W.kitOne K (.ref Y1) (.type "int") = some false)
    (yh1_1 : PySem.W.kitOne K (.ref Y1) (.type "bool") = some false)
    (yh1_2 : PySem.W.kitOne K (.ref Y1) (.type "str") = some false)
    (yh1_3 : PySem.W.kitOne K (.ref Y1) (.type "tuple") = some false)
    (yh1_4 : PySem.W.kitOne K (.ref Y1) (.type "list") = some false)
    (yh1_5 : PySem.W.kitOne K (.ref Y1) (.type "dict") = some false)
    (yn1_0 : PySem.W.findIn K (.ref Y1) "part" = some none)
    (yn1_1 : PySem.W.findIn K (.ref Y1) "one" = some none)
    (yn1_2 : PySem.W.findIn K (.ref Y1) "other" = some none)
    (yn1_3 : PySem.W.findIn K (.ref Y1) "n" = some none)
    (yb2 : PySem.W.plainGet K Y2 Str.empty = true)
    (yc2 : PySem.W.hasDictIn K Y2 = true)
    (yd2 : PySem.W.plainOver K Y2 = true)
    (ye2 : PySem.W.findIn K (.ref Y2) "__setattr__" = some (some (.builtin "object.__setattr__")))
    (yf2 : PySem.W.findIn K (.ref Y2) "__class__" = some (some (.builtin "object.__class__")))
    (yg2 : PySem.W.mroIn K Y2 (.type "object") = some true)
    (yh2_0 : PySem.W.kitOne K (.ref Y2) (.type "int") = some false)
    (yh2_1 : PySem.W.kitOne K (.ref Y2) (.type "bool") = some false)
    (yh2_2 : PySem.W.kitOne K (.ref Y2) (.type "str") = some false)
    (yh2_3 : PySem.W.kitOne K (.ref Y2) (.type "tuple") = some false)
    (yh2_4 : PySem.W.kitOne K (.ref Y2) (.type "list") = some false)
    (yh2_5 : PySem.W.kitOne K (.ref Y2) (.type "dict") = some false)
    (yn2_0 : PySem.W.findIn K (.ref Y2) "part" = some none)
    (yn2_1 : PySem.W.findIn K (.ref Y2) "one" = some none)
    (yn2_2 : PySem.W.findIn K (.ref Y2) "other" = some none)
    (yn2_3 : PySem.W.findIn K (.ref Y2) "n" = some none)
    (yb3 : PySem.W.plainGet K Y3 Str.empty = true)
    (yc3 : PySem.W.hasDictIn K Y3 = true)
    (yd3 : PySem.W.plainOver K Y3 = true)
    (ye3 : PySem.W.findIn K (.ref Y3) "__setattr__" = some (some (.builtin "object.__setattr__")))
    (yf3 : PySem.W.findIn K (.ref Y3) "__class__" = some (some (.builtin "object.__class__")))
    (yg3 : PySem.W.mroIn K Y3 (.type "object") = some true)
    (yh3_0 : PySem.W.kitOne K (.ref Y3) (.type "int") = some false)
    (yh3_1 : PySem.W.kitOne K (.ref Y3) (.type "bool") = some false)
    (yh3_2 : PySem.W.kitOne K (.ref Y3) (.type "str") = some false)
    (yh3_3 : PySem.W.kitOne K (.ref Y3) (.type "tuple") = some false)
    (yh3_4 : PySem.W.kitOne K (.ref Y3) (.type "list") = some false)
    (yh3_5 : PySem.W.kitOne K (.ref Y3) (.type "dict") = some false)
    (yn3_0 : PySem.W.findIn K (.ref Y3) "part" = some none)
    (yn3_1 : PySem.W.findIn K (.ref Y3) "one" = some none)
    (yn3_2 : PySem.W.findIn K (.ref Y3) "other" = some none)
    (yn3_3 : PySem.W.findIn K (.ref Y3) "n" = some none)
    (yb4 : PySem.W.plainGet K Y4 Str.empty = true)
    (yc4 : PySem.W.hasDictIn K Y4 = true)
    (yd4 : PySem.W.plainOver K Y4 = true)
    (ye4 : PySem.W.findIn K (.ref Y4) "__setattr__" = some (some (.builtin "object.__setattr__")))
    (yf4 : PySem.W.findIn K (.ref Y4) "__class__" = some (some (.builtin "object.__class__")))
    (yg4 : PySem.W.mroIn K Y4 (.type "object") = some true)
    (yh4_0 : PySem.W.kitOne K (.ref Y4) (.type "int") = some false)
    (yh4_1 : PySem.W.kitOne K (.ref Y4) (.type "bool") = some false)
    (yh4_2 : PySem.W.kitOne K (.ref Y4) (.type "str") = some false)
    (yh4_3 : PySem.W.kitOne K (.ref Y4) (.type "tuple") = some false)
    (yh4_4 : PySem.W.kitOne K (.ref Y4) (.type "list") = some false)
    (yh4_5 : PySem.W.kitOne K (.ref Y4) (.type "dict") = some false)
    (yn4_0 : PySem.W.findIn K (.ref Y4) "part" = some none)
    (yn4_1 : PySem.W.findIn K (.ref Y4) "one" = some none)
    (yn4_2 : PySem.W.findIn K (.ref Y4) "other" = some none)
    (yn4_3 : PySem.W.findIn K (.ref Y4) "n" = some none)
    (yb5 : PySem.W.plainGet K Y5 Str.empty = true)
    (yc5 : PySem.W.hasDictIn K Y5 = true)
    (yd5 : PySem.W.plainOver K Y5 = true)
    (ye5 : PySem.W.findIn K (.ref Y5) "__setattr__" = some (some (.builtin "object.__setattr__")))
    (yf5 : PySem.W.findIn K (.ref Y5) "__class__" = some (some (.builtin "object.__class__")))
    (yg5 : PySem.W.mroIn K Y5 (.type "object") = some true)
    (yh5_0 : PySem.W.kitOne K (.ref Y5) (.type "int") = some false)
    (yh5_1 : PySem.W.kitOne K (.ref Y5) (.type "bool") = some false)
    (yh5_2 : PySem.W.kitOne K (.ref Y5) (.type "str") = some false)
    (yh5_3 : PySem.W.kitOne K (.ref Y5) (.type "tuple") = some false)
    (yh5_4 : PySem.W.kitOne K (.ref Y5) (.type "list") = some false)
    (yh5_5 : PySem.W.kitOne K (.ref Y5) (.type "dict") = some false)
    (yn5_0 : PySem.W.findIn K (.ref Y5) "part" = some none)
    (yn5_1 : PySem.W.findIn K (.ref Y5) "one" = some none)
    (yn5_2 : PySem.W.findIn K (.ref Y5) "other" = some none)
    (yn5_3 : PySem.W.findIn K (.ref Y5) "n" = some none)
    (ym2 : PySem.W.makesIn K Y2 = true) (yp2 : PySem.W.keepIn K (.ref Y2) = true)
    (ym0 : PySem.W.makesIn K Y0 = true) (yp0 : PySem.W.keepIn K (.ref Y0) = true)
    (ym5 : PySem.W.makesIn K Y5 = true) (yp5 : PySem.W.keepIn K (.ref Y5) = true)
    (ym3 : PySem.W.makesIn K Y3 = true) (yp3 : PySem.W.keepIn K (.ref Y3) = true)
    (ym4 : PySem.W.makesIn K Y4 = true) (yp4 : PySem.W.keepIn K (.ref Y4) = true)
    (ym1 : PySem.W.makesIn K Y1 = true) (yp1 : PySem.W.keepIn K (.ref Y1) = true)
    (mi2 : PySem.W.findIn K (.ref Y2) "__init__" = some (some (.ref fm14)))
    (mi0 : PySem.W.findIn K (.ref Y0) "__init__" = some (some (.ref fm15)))
    (mi5 : PySem.W.findIn K (.ref Y5) "__init__" = some (some (.ref fm16)))
    (mi3 : PySem.W.findIn K (.ref Y3) "__init__" = some (some (.ref fm14)))
    (mi4 : PySem.W.findIn K (.ref Y4) "__init__" = some (some (.ref fm14)))
    (mi1 : PySem.W.findIn K (.ref Y1) "__init__" = some (some (.ref fm14)))
    (mb0_seen_by : PySem.W.findIn K (.ref Y0) "seen_by" = some (some (.ref fm0)))
    (mb1_seen_by : PySem.W.findIn K (.ref Y1) "seen_by" = some (some (.ref fm5)))
    (mb2_seen_by : PySem.W.findIn K (.ref Y2) "seen_by" = some (some (.ref fm5)))
    (mb3_seen_by : PySem.W.findIn K (.ref Y3) "seen_by" = some (some (.ref fm5)))
    (mb4_seen_by : PySem.W.findIn K (.ref Y4) "seen_by" = some (some (.ref fm5)))
    (mb5_seen_by : PySem.W.findIn K (.ref Y5) "seen_by" = some (some (.ref fm6)))
    (mb1_of_lefts : PySem.W.findIn K (.ref Y1) "of_lefts" = some (some (.ref fm1)))
    (mb2_of_lefts : PySem.W.findIn K (.ref Y2) "of_lefts" = some (some (.ref fm2)))
    (mb3_of_lefts : PySem.W.findIn K (.ref Y3) "of_lefts" = some (some (.ref fm3)))
    (mb4_of_lefts : PySem.W.findIn K (.ref Y4) "of_lefts" = some (some (.ref fm4)))
    (mb0_value : PySem.W.findIn K (.ref Y0) "value" = some (some (.ref fm7)))
    (mb1_value : PySem.W.findIn K (.ref Y1) "value" = some (some (.ref fm12)))
    (mb2_value : PySem.W.findIn K (.ref Y2) "value" = some (some (.ref fm12)))
    (mb3_value : PySem.W.findIn K (.ref Y3) "value" = some (some (.ref fm12)))
    (mb4_value : PySem.W.findIn K (.ref Y4) "value" = some (some (.ref fm12)))
    (mb5_value : PySem.W.findIn K (.ref Y5) "value" = some (some (.ref fm13)))
    (mb1_of_fractions : PySem.W.findIn K (.ref Y1) "of_fractions" = some (some (.ref fm8)))
    (mb2_of_fractions : PySem.W.findIn K (.ref Y2) "of_fractions" = some (some (.ref fm9)))
    (mb3_of_fractions : PySem.W.findIn K (.ref Y3) "of_fractions" = some (some (.ref fm10)))
    (mb4_of_fractions : PySem.W.findIn K (.ref Y4) "of_fractions" = some (some (.ref fm11)))
    (ml0 : K.lookup fm0 = some ⟨ocm0, odm0, .func (PySem.W.fnOf "seen_by" "Part.seen_by" (defArgs st_Part_seen_by) (defBody st_Part_seen_by) (defScope st_Part_seen_by) .none kVm0 dcm0 pmm0 anm0 cdm0 ctm0), slm0⟩) (mc0 : PySem.W.codeIn K cdm0 "Part.seen_by" = true) (mk0 : PySem.W.keepIn K (.ref fm0) = true) (mf0 : PySem.W.isFn K (.ref fm0) = true)
    (ml1 : K.lookup fm1 = some ⟨ocm1, odm1, .func (PySem.W.fnOf "of_lefts" "Sum.of_lefts" (defArgs st_Sum_of_lefts) (defBody st_Sum_of_lefts) (defScope st_Sum_of_lefts) .none kVm1 dcm1 pmm1 anm1 cdm1 ctm1), slm1⟩) (mc1 : PySem.W.codeIn K cdm1 "Sum.of_lefts" = true) (mk1 : PySem.W.keepIn K (.ref fm1) = true) (mf1 : PySem.W.isFn K (.ref fm1) = true)
    (ml2 : K.lookup fm2 = some ⟨ocm2, odm2, .func (PySem.W.fnOf "of_lefts" "Difference.of_lefts" (defArgs st_Difference_of_lefts) (defBody st_Difference_of_lefts) (defScope st_Difference_of_lefts) .none kVm2 dcm2 pmm2 anm2 cdm2 ctm2), slm2⟩) (mc2 : PySem.W.codeIn K cdm2 "Difference.of_lefts" = true) (mk2 : PySem.W.keepIn K (.ref fm2) = true) (mf2 : PySem.W.isFn K (.ref fm2) = true)
    (ml3 : K.lookup fm3 = some ⟨ocm3, odm3, .func (PySem.W.fnOf "of_lefts" "Product.of_lefts" (defArgs st_Product_of_lefts) (defBody st_Product_of_lefts) (defScope st_Product_of_lefts) .none kVm3 dcm3 pmm3 anm3 cdm3 ctm3), slm3⟩) (mc3 : PySem.W.codeIn K cdm3 "Product.of_lefts" = true) (mk3 : PySem.W.keepIn K (.ref fm3) = true) (mf3 : PySem.W.isFn K (.ref fm3) = true)
    (ml4 : K.lookup fm4 = some ⟨ocm4, odm4, .func (PySem.W.fnOf "of_lefts" "Quotient.of_lefts" (defArgs st_Quotient_of_lefts) (defBody st_Quotient_of_lefts) (defScope st_Quotient_of_lefts) .none kVm4 dcm4 pmm4 anm4 cdm4 ctm4), slm4⟩) (mc4 : PySem.W.codeIn K cdm4 "Quotient.of_lefts" = true) (mk4 : PySem.W.keepIn K (.ref fm4) = true) (mf4 : PySem.W.isFn K (.ref fm4) = true)
    (ml5 : K.lookup fm5 = some ⟨ocm5, odm5, .func (PySem.W.fnOf "seen_by" "Pair.seen_by" (defArgs st_Pair_seen_by) (defBody st_Pair_seen_by) (defScope st_Pair_seen_by) .none kVm5 dcm5 pmm5 anm5 cdm5 ctm5), slm5⟩) (mc5 : PySem.W.codeIn K cdm5 "Pair.seen_by" = true) (mk5 : PySem.W.keepIn K (.ref fm5) = true) (mf5 : PySem.W.isFn K (.ref fm5) = true)
    (ml6 : K.lookup fm6 = some ⟨ocm6, odm6, .func (PySem.W.fnOf "seen_by" "Power.seen_by" (defArgs st_Power_seen_by) (defBody st_Power_seen_by) (defScope st_Power_seen_by) .none kVm6 dcm6 pmm6 anm6 cdm6 ctm6), slm6⟩) (mc6 : PySem.W.codeIn K cdm6 "Power.seen_by" = true) (mk6 : PySem.W.keepIn K (.ref fm6) = true) (mf6 : PySem.W.isFn K (.ref fm6) = true)
    (ml7 : K.lookup fm7 = some ⟨ocm7, odm7, .func (PySem.W.fnOf "value" "Part.value" (defArgs st_Part_value) (defBody st_Part_value) (defScope st_Part_value) .none kVm7 dcm7 pmm7 anm7 cdm7 ctm7), slm7⟩) (mc7 : PySem.W.codeIn K cdm7 "Part.value" = true) (mk7 : PySem.W.keepIn K (.ref fm7) = true) (mf7 : PySem.W.isFn K (.ref fm7) = true)
    (ml8 : K.lookup fm8 = some ⟨ocm8, odm8, .func (PySem.W.fnOf "of_fractions" "Sum.of_fractions" (defArgs st_Sum_of_fractions) (defBody st_Sum_of_fractions) (defScope st_Sum_of_fractions) .none kVm8 dcm8 pmm8 anm8 cdm8 ctm8), slm8⟩) (mc8 : PySem.W.codeIn K cdm8 "Sum.of_fractions" = true) (mk8 : PySem.W.keepIn K (.ref fm8) = true) (mf8 : PySem.W.isFn K (.ref fm8) = true)
    (ml9 : K.lookup fm9 = some ⟨ocm9, odm9, .func (PySem.W.fnOf "of_fractions" "Difference.of_fractions" (defArgs st_Difference_of_fractions) (defBody st_Difference_of_fractions) (defScope st_Difference_of_fractions) .none kVm9 dcm9 pmm9 anm9 cdm9 ctm9), slm9⟩) (mc9 : PySem.W.codeIn K cdm9 "Difference.of_fractions" = true) (mk9 : PySem.W.keepIn K (.ref fm9) = true) (mf9 : PySem.W.isFn K (.ref fm9) = true)
    (ml10 : K.lookup fm10 = some ⟨ocm10, odm10, .func (PySem.W.fnOf "of_fractions" "Product.of_fractions" (defArgs st_Product_of_fractions) (defBody st_Product_of_fractions) (defScope st_Product_of_fractions) .none kVm10 dcm10 pmm10 anm10 cdm10 ctm10), slm10⟩) (mc10 : PySem.W.codeIn K cdm10 "Product.of_fractions" = true) (mk10 : PySem.W.keepIn K (.ref fm10) = true) (mf10 : PySem.W.isFn K (.ref fm10) = true)
    (ml11 : K.lookup fm11 = some ⟨ocm11, odm11, .func (PySem.W.fnOf "of_fractions" "Quotient.of_fractions" (defArgs st_Quotient_of_fractions) (defBody st_Quotient_of_fractions) (defScope st_Quotient_of_fractions) .none kVm11 dcm11 pmm11 anm11 cdm11 ctm11), slm11⟩) (mc11 : PySem.W.codeIn K cdm11 "Quotient.of_fractions" = true) (mk11 : PySem.W.keepIn K (.ref fm11) = true) (mf11 : PySem.W.isFn K (.ref fm11) = true)
    (ml12 : K.lookup fm12 = some ⟨ocm12, odm12, .func (PySem.W.fnOf "value" "Pair.value" (defArgs st_Pair_value) (defBody st_Pair_value) (defScope st_Pair_value) .none kVm12 dcm12 pmm12 anm12 cdm12 ctm12), slm12⟩) (mc12 : PySem.W.codeIn K cdm12 "Pair.value" = true) (mk12 : PySem.W.keepIn K (.ref fm12) = true) (mf12 : PySem.W.isFn K (.ref fm12) = true)
    (ml13 : K.lookup fm13 = some ⟨ocm13, odm13, .func (PySem.W.fnOf "value" "Power.value" (defArgs st_Power_value) (defBody st_Power_value) (defScope st_Power_value) .none kVm13 dcm13 pmm13 anm13 cdm13 ctm13), slm13⟩) (mc13 : PySem.W.codeIn K cdm13 "Power.value" = true) (mk13 : PySem.W.keepIn K (.ref fm13) = true) (mf13 : PySem.W.isFn K (.ref fm13) = true)
    (ml14 : K.lookup fm14 = some ⟨ocm14, odm14, .func (PySem.W.fnOf "__init__" "Pair.__init__" (defArgs st_Pair___init__) (defBody st_Pair___init__) (defScope st_Pair___init__) .none kVm14 dcm14 pmm14 anm14 cdm14 ctm14), slm14⟩) (mc14 : PySem.W.codeIn K cdm14 "Pair.__init__" = true) (mk14 : PySem.W.keepIn K (.ref fm14) = true) (mf14 : PySem.W.isFn K (.ref fm14) = true)
    (ml15 : K.lookup fm15 = some ⟨ocm15, odm15, .func (PySem.W.fnOf "__init__" "Part.__init__" (defArgs st_Part___init__) (defBody st_Part___init__) (defScope st_Part___init__) .none kVm15 dcm15 pmm15 anm15 cdm15 ctm15), slm15⟩) (mc15 : PySem.W.codeIn K cdm15 "Part.__init__" = true) (mk15 : PySem.W.keepIn K (.ref fm15) = true) (mf15 : PySem.W.isFn K (.ref fm15) = true)
    (ml16 : K.lookup fm16 = some ⟨ocm16, odm16, .func (PySem.W.fnOf "__init__" "Power.__init__" (defArgs st_Power___init__) (defBody st_Power___init__) (defScope st_Power___init__) .none kVm16 dcm16 pmm16 anm16 cdm16 ctm16), slm16⟩) (mc16 : PySem.W.codeIn K cdm16 "Power.__init__" = true) (mk16 : PySem.W.keepIn K (.ref fm16) = true) (mf16 : PySem.W.isFn K (.ref fm16) = true)
    (ga0 : PySem.W.nsIn K mainGlobals "FARTHER" = some (some (.ref GT0))) (gb0 : K.lookup GT0 = some ⟨.type "tuple", gtd0, .seq #[.int 0 gt0_0, .int 1 gt0_1, .int 2 gt0_2, .int 4 gt0_3, .int 8 gt0_4, .int 16 gt0_5, .int 32 gt0_6, .int 64 gt0_7, .int 128 gt0_8, .int 256 gt0_9] gtm0, gtl0⟩)
    : ∃ fd : FuncData, (∀ (s : Shared) (v : Value), BindsTo s fd ⟨[v], []⟩ [("_law_script", v)]) ∧ ∀ base : Heap, K.In base → base.Ns mainGlobals mg → FnOk l.prog w K mg base (L2N.CX l.prog w) 25 fa fd ["_law_script"] (spLaw K) := by
  have e := hfa.symm.trans (PySem.W.mg_of X G a47)
  cases e
  have B : Tx K mg := ⟨defE_mk X G a0 l0 c0 k0 fun _ _ _ _ _ _ us hl => match us, hl with | [_], _ => rfl,
    defE_mk X G a1 l1 c1 k1 fun _ _ _ _ _ _ us hl => match us, hl with | [_], _ => rfl,
    defE_mk X G a2 l2 c2 k2 fun _ _ _ _ _ _ us hl => match us, hl with | [_, _], _ => rfl,
    defE_mk X G a3 l3 c3 k3 fun _ _ _ _ _ _ us hl => match us, hl with | [_, _], _ => rfl,
    defE_mk X G a4 l4 c4 k4 fun _ _ _ _ _ _ us hl => match us, hl with | [_, _], _ => rfl,
    defED_mk X G a5 l5 c5 k5 lt5 (fun _ _ _ _ _ _ _ us its hl h2 => match us, its, hl, h2 with | [_, _], [_], _, _ => ⟨_, rfl, rfl⟩) (fun _ _ _ _ _ _ _ us its hl h2 => match us, its, hl, h2 with | [_], [_], _, _ => ⟨_, rfl, rfl⟩),
    defE_mk X G a6 l6 c6 k6 fun _ _ _ _ _ _ us hl => match us, hl with | [_], _ => rfl,
    defE_mk X G a7 l7 c7 k7 fun _ _ _ _ _ _ us hl => match us, hl with | [_, _], _ => rfl,
    defE_mk X G a8 l8 c8 k8 fun _ _ _ _ _ _ us hl => match us, hl with | [_, _], _ => rfl,
    defE_mk X G a9 l9 c9 k9 fun _ _ _ _ _ _ us hl => match us, hl with | [_, _], _ => rfl,
    defE_mk X G a10 l10 c10 k10 fun _ _ _ _ _ _ us hl => match us, hl with | [_, _], _ => rfl,
    defE_mk X G a11 l11 c11 k11 fun _ _ _ _ _ _ us hl => match us, hl with | [_, _], _ => rfl,
    defE_mk X G a12 l12 c12 k12 fun _ _ _ _ _ _ us hl => match us, hl with | [_, _], _ => rfl,
    defE_mk X G a13 l13 c13 k13 fun _ _ _ _ _ _ us hl => match us, hl with | [_, _, _], _ => rfl,
    defE_mk X G a14 l14 c14 k14 fun _ _ _ _ _ _ us hl => match us, hl with | [_], _ => rfl,
    defE_mk X G a15 l15 c15 k15 fun _ _ _ _ _ _ us hl => match us, hl with | [_], _ => rfl,
    defE_mk X G a16 l16 c16 k16 fun _ _ _ _ _ _ us hl => match us, hl with | [_], _ => rfl,
    defE_mk X G a17 l17 c17 k17 fun _ _ _ _ _ _ us hl => match us, hl with | [_], _ => rfl,
    defE_mk X G a18 l18 c18 k18 fun _ _ _ _ _ _ us hl => match us, hl with | [_, _, _, _], _ => rfl,
    defE_mk X G a19 l19 c19 k19 fun _ _ _ _ _ _ us hl => match us, hl with | [_, _], _ => rfl,
    defE_mk X G a20 l20 c20 k20 fun _ _ _ _ _ _ us hl => match us, hl with | [_, _], _ => rfl,
    defE_mk X G a21 l21 c21 k21 fun _ _ _ _ _ _ us hl => match us, hl with | [_, _], _ => rfl,
    defE_mk X G a22 l22 c22 k22 fun _ _ _ _ _ _ us hl => match us, hl with | [_, _, _, _], _ => rfl,
    defE_mk X G a23 l23 c23 k23 fun _ _ _ _ _ _ us hl => match us, hl with | [_, _, _], _ => rfl,
    defE_mk X G a24 l24 c24 k24 fun _ _ _ _ _ _ us hl => match us, hl with | [_, _], _ => rfl,
    defE_mk X G a25 l25 c25 k25 fun _ _ _ _ _ _ us hl => match us, hl with | [_], _ => rfl,
    defE_mk X G a26 l26 c26 k26 fun _ _ _ _ _ _ us hl => match us, hl with | [_, _], _ => rfl,
    defE_mk X G a27 l27 c27 k27 fun _ _ _ _ _ _ us hl => match us, hl with | [_, _], _ => rfl,
    defE_mk X G a28 l28 c28 k28 fun _ _ _ _ _ _ us hl => match us, hl with | [_, _], _ => rfl,
    defE_mk X G a29 l29 c29 k29 fun _ _ _ _ _ _ us hl => match us, hl with | [_, _], _ => rfl,
    defE_mk X G a30 l30 c30 k30 fun _ _ _ _ _ _ us hl => match us, hl with | [_, _, _], _ => rfl,
    defE_mk X G a31 l31 c31 k31 fun _ _ _ _ _ _ us hl => match us, hl with | [_, _, _], _ => rfl,
    defE_mk X G a32 l32 c32 k32 fun _ _ _ _ _ _ us hl => match us, hl with | [_, _], _ => rfl,
    defE_mk X G a33 l33 c33 k33 fun _ _ _ _ _ _ us hl => match us, hl with | [_, _, _], _ => rfl,
    defE_mk X G a34 l34 c34 k34 fun _ _ _ _ _ _ us hl => match us, hl with | [_, _, _], _ => rfl,
    defE_mk X G a35 l35 c35 k35 fun _ _ _ _ _ _ us hl => match us, hl with | [_, _], _ => rfl,
    defE_mk X G a36 l36 c36 k36 fun _ _ _ _ _ _ us hl => match us, hl with | [_], _ => rfl,
    defE_mk X G a37 l37 c37 k37 fun _ _ _ _ _ _ us hl => match us, hl with | [_, _], _ => rfl,
    defE_mk X G a38 l38 c38 k38 fun _ _ _ _ _ _ us hl => match us, hl with | [_, _], _ => rfl,
    defE_mk X G a39 l39 c39 k39 fun _ _ _ _ _ _ us hl => match us, hl with | [_, _], _ => rfl,
    defE_mk X G a40 l40 c40 k40 fun _ _ _ _ _ _ us hl => match us, hl with | [_, _, _], _ => rfl,
    defE_mk X G a41 l41 c41 k41 fun _ _ _ _ _ _ us hl => match us, hl with | [_, _, _], _ => rfl,
    defE_mk X G a42 l42 c42 k42 fun _ _ _ _ _ _ us hl => match us, hl with | [_, _], _ => rfl,
    defE_mk X G a43 l43 c43 k43 fun _ _ _ _ _ _ us hl => match us, hl with | [_, _], _ => rfl,
    defE_mk X G a44 l44 c44 k44 fun _ _ _ _ _ _ us hl => match us, hl with | [_, _, _], _ => rfl,
    defE_mk X G a45 l45 c45 k45 fun _ _ _ _ _ _ us hl => match us, hl with | [_, _, _], _ => rfl,
    defE_mk X G a46 l46 c46 k46 fun _ _ _ _ _ _ us hl => match us, hl with | [_, _, _], _ => rfl,
    PySem.W.mg_none_of X G z0,
    PySem.W.mg_none_of X G z1,
    PySem.W.mg_none_of X G z2,
    PySem.W.mg_none_of X G z3,
    PySem.W.mg_none_of X G z4,
    PySem.W.mg_none_of X G z5,
    PySem.W.mg_none_of X G z6,
    PySem.W.mg_none_of X G z7,
    PySem.W.mg_none_of X G z8,
    PySem.W.mg_none_of X G z9,
    PySem.W.mg_none_of X G z10,
    PySem.W.mg_none_of X G z11,
    PySem.W.mg_none_of X G z12,
    PySem.W.mg_none_of X G z13,
    glI_mk X G g0,
    glI_mk X G g1,
    excE_mk X G xa0 xe0 xk0 xs0 xt0,
    excE_mk X G xa1 xe1 xk1 xs1 xt1,
    excE_mk X G xa2 xe2 xk2 xs2 xt2,
    excE_mk X G xa3 xe3 xk3 xs3 xt3,
    excE_mk X G xa4 xe4 xk4 xs4 xt4,
    excE_mk X G xa5 xe5 xk5 xs5 xt5,
    excE_mk X G xa6 xe6 xk6 xs6 xt6,
    ⟨V0, PySem.W.mg_of X G va0⟩,
    ko_mk X G va0 va0 vb0 vd0 vt0 vs0,
    ⟨GT0, PySem.W.mg_of X G ga0, _, _, _, gb0, rfl, rfl, (by show 10 ≤ sizeLine; decide), (.cons ⟨_, rfl⟩ (.cons ⟨_, rfl⟩ (.cons ⟨_, rfl⟩ (.cons ⟨_, rfl⟩ (.cons ⟨_, rfl⟩ (.cons ⟨_, rfl⟩ (.cons ⟨_, rfl⟩ (.cons ⟨_, rfl⟩ (.cons ⟨_, rfl⟩ (.cons ⟨_, rfl⟩ .nil)))))))))), (by simp)⟩,
    (by unfold cs6; rw [addrOf_eq (PySem.W.mg_of X G ya0), addrOf_eq (PySem.W.mg_of X G ya1), addrOf_eq (PySem.W.mg_of X G ya2), addrOf_eq (PySem.W.mg_of X G ya3), addrOf_eq (PySem.W.mg_of X G ya4), addrOf_eq (PySem.W.mg_of X G ya5)]; exact yz),
    clsE_mk X G ya0 ⟨⟨yb0, yc0, yd0, ye0⟩, yf0, zq6, zq7, yg0, (fa_cons yh0_0 (fa_cons yh0_1 (fa_cons yh0_2 (fa_cons yh0_3 (fa_cons yh0_4 (fa_cons yh0_5 fa_nil)))))), (fa_cons yn0_0 (fa_cons yn0_1 (fa_cons yn0_2 (fa_cons yn0_3 fa_nil))))⟩,
    clsE_mk X G ya1 ⟨⟨yb1, yc1, yd1, ye1⟩, yf1, zq6, zq7, yg1, (fa_cons yh1_0 (fa_cons yh1_1 (fa_cons yh1_2 (fa_cons yh1_3 (fa_cons yh1_4 (fa_cons yh1_5 fa_nil)))))), (fa_cons yn1_0 (fa_cons yn1_1 (fa_cons yn1_2 (fa_cons yn1_3 fa_nil))))⟩,
    clsE_mk X G ya2 ⟨⟨yb2, yc2, yd2, ye2⟩, yf2, zq6, zq7, yg2, (fa_cons yh2_0 (fa_cons yh2_1 (fa_cons yh2_2 (fa_cons yh2_3 (fa_cons yh2_4 (fa_cons yh2_5 fa_nil)))))), (fa_cons yn2_0 (fa_cons yn2_1 (fa_cons yn2_2 (fa_cons yn2_3 fa_nil))))⟩,
    clsE_mk X G ya3 ⟨⟨yb3, yc3, yd3, ye3⟩, yf3, zq6, zq7, yg3, (fa_cons yh3_0 (fa_cons yh3_1 (fa_cons yh3_2 (fa_cons yh3_3 (fa_cons yh3_4 (fa_cons yh3_5 fa_nil)))))), (fa_cons yn3_0 (fa_cons yn3_1 (fa_cons yn3_2 (fa_cons yn3_3 fa_nil))))⟩,
    clsE_mk X G ya4 ⟨⟨yb4, yc4, yd4, ye4⟩, yf4, zq6, zq7, yg4, (fa_cons yh4_0 (fa_cons yh4_1 (fa_cons yh4_2 (fa_cons yh4_3 (fa_cons yh4_4 (fa_cons yh4_5 fa_nil)))))), (fa_cons yn4_0 (fa_cons yn4_1 (fa_cons yn4_2 (fa_cons yn4_3 fa_nil))))⟩,
    clsE_mk X G ya5 ⟨⟨yb5, yc5, yd5, ye5⟩, yf5, zq6, zq7, yg5, (fa_cons yh5_0 (fa_cons yh5_1 (fa_cons yh5_2 (fa_cons yh5_3 (fa_cons yh5_4 (fa_cons yh5_5 fa_nil)))))), (fa_cons yn5_0 (fa_cons yn5_1 (fa_cons yn5_2 (fa_cons yn5_3 fa_nil))))⟩,
    makeE_mk X G ya2 ym2 yp2 mi2 mf14 ml14 mc14 mk14 (fun _ _ _ _ _ _ us hl => match us, hl with | [_, _, _], _ => rfl),
    makeE_mk X G ya0 ym0 yp0 mi0 mf15 ml15 mc15 mk15 (fun _ _ _ _ _ _ us hl => match us, hl with | [_, _], _ => rfl),
    makeE_mk X G ya5 ym5 yp5 mi5 mf16 ml16 mc16 mk16 (fun _ _ _ _ _ _ us hl => match us, hl with | [_, _, _], _ => rfl),
    makeE_mk X G ya3 ym3 yp3 mi3 mf14 ml14 mc14 mk14 (fun _ _ _ _ _ _ us hl => match us, hl with | [_, _, _], _ => rfl),
    makeE_mk X G ya4 ym4 yp4 mi4 mf14 ml14 mc14 mk14 (fun _ _ _ _ _ _ us hl => match us, hl with | [_, _, _], _ => rfl),
    makeE_mk X G ya1 ym1 yp1 mi1 mf14 ml14 mc14 mk14 (fun _ _ _ _ _ _ us hl => match us, hl with | [_, _, _], _ => rfl),
    methE_mk X G ya0 mb0_seen_by mf0 ml0 mc0 mk0 (fun _ _ _ _ _ _ us hl => match us, hl with | [_, _, _], _ => rfl),
    methE_mk X G ya1 mb1_seen_by mf5 ml5 mc5 mk5 (fun _ _ _ _ _ _ us hl => match us, hl with | [_, _, _], _ => rfl),
    methE_mk X G ya2 mb2_seen_by mf5 ml5 mc5 mk5 (fun _ _ _ _ _ _ us hl => match us, hl with | [_, _, _], _ => rfl),
    methE_mk X G ya3 mb3_seen_by mf5 ml5 mc5 mk5 (fun _ _ _ _ _ _ us hl => match us, hl with | [_, _, _], _ => rfl),
    methE_mk X G ya4 mb4_seen_by mf5 ml5 mc5 mk5 (fun _ _ _ _ _ _ us hl => match us, hl with | [_, _, _], _ => rfl),
    methE_mk X G ya5 mb5_seen_by mf6 ml6 mc6 mk6 (fun _ _ _ _ _ _ us hl => match us, hl with | [_, _, _], _ => rfl),
    methE_mk X G ya1 mb1_of_lefts mf1 ml1 mc1 mk1 (fun _ _ _ _ _ _ us hl => match us, hl with | [_, _, _], _ => rfl),
    methE_mk X G ya2 mb2_of_lefts mf2 ml2 mc2 mk2 (fun _ _ _ _ _ _ us hl => match us, hl with | [_, _, _], _ => rfl),
    methE_mk X G ya3 mb3_of_lefts mf3 ml3 mc3 mk3 (fun _ _ _ _ _ _ us hl => match us, hl with | [_, _, _], _ => rfl),
    methE_mk X G ya4 mb4_of_lefts mf4 ml4 mc4 mk4 (fun _ _ _ _ _ _ us hl => match us, hl with | [_, _, _], _ => rfl),
    methE_mk X G ya0 mb0_value mf7 ml7 mc7 mk7 (fun _ _ _ _ _ _ us hl => match us, hl with | [_], _ => rfl),
    methE_mk X G ya1 mb1_value mf12 ml12 mc12 mk12 (fun _ _ _ _ _ _ us hl => match us, hl with | [_], _ => rfl),
    methE_mk X G ya2 mb2_value mf12 ml12 mc12 mk12 (fun _ _ _ _ _ _ us hl => match us, hl with | [_], _ => rfl),
    methE_mk X G ya3 mb3_value mf12 ml12 mc12 mk12 (fun _ _ _ _ _ _ us hl => match us, hl with | [_], _ => rfl),
    methE_mk X G ya4 mb4_value mf12 ml12 mc12 mk12 (fun _ _ _ _ _ _ us hl => match us, hl with | [_], _ => rfl),
    methE_mk X G ya5 mb5_value mf13 ml13 mc13 mk13 (fun _ _ _ _ _ _ us hl => match us, hl with | [_], _ => rfl),
    methE_mk X G ya1 mb1_of_fractions mf8 ml8 mc8 mk8 (fun _ _ _ _ _ _ us hl => match us, hl with | [_, _, _], _ => rfl),
    methE_mk X G ya2 mb2_of_fractions mf9 ml9 mc9 mk9 (fun _ _ _ _ _ _ us hl => match us, hl with | [_, _, _], _ => rfl),
    methE_mk X G ya3 mb3_of_fractions mf10 ml10 mc10 mk10 (fun _ _ _ _ _ _ us hl => match us, hl with | [_, _, _], _ => rfl),
    methE_mk X G ya4 mb4_of_fractions mf11 ml11 mc11 mk11 (fun _ _ _ _ _ _ us hl => match us, hl with | [_, _, _], _ => rfl)⟩
  exact ⟨_, fun s v => .of_eq rfl, fun base _ _ => law_impB (law_true (addrOf mg) B.ms) (fn_mk (fun_mk (st := st_law) l47 c47 k47) sc_law rfl (fun z => nomatch z) fun cdv A outer s H E hr => bd_law B hr)⟩
end K95
open PySem PySem.W PyProof.Rows
set_option maxHeartbeats 0 in
theorem PySem.Challenge.cw_leftnumbers_k95_whole_worked_out_holds : PySem.Challenge.rw_leftnumbers_k95_whole_worked_out.Holds := by
  w_on; o_law; k_head; (case hw => w_witness2)
  k_fill
  refine L2.walk_ofB (l := PySem.Challenge.rw_leftnumbers_k95_whole_worked_out) (n := 63) (k := 25) (x := "_law_script") (CX := fun w => L2N.CX PySem.Challenge.rw_leftnumbers_k95_whole_worked_out.prog w) (sp := fun w => PL.spLaw _) rfl (by decide) rfl ⟨rfl, by decide, by decide⟩ (fun w h Y => PySem.W.kIn_of Y) ?F (fun _ _ a ns hl hB hO hS => ⟨a, ns, rfl, hS, hO, hl, hB, fun _ _ e => e⟩) (fun _ _ _ _ _ h => PL.cx_none h)
  case F =>
    intro w mg fa h KX G hmg
    refine' K95.all_mk KX G hmg ?pl_a0 ?pl_l0 ?pl_c0 ?pl_k0 ?pl_a1 ?pl_l1 ?pl_c1 ?pl_k1 ?pl_a2 ?pl_l2 ?pl_c2 ?pl_k2 ?pl_a3 ?pl_l3 ?pl_c3 ?pl_k3 ?pl_a4 ?pl_l4 ?pl_c4 ?pl_k4 ?pl_a5 ?pl_l5 ?pl_c5 ?pl_k5 ?pl_lt5 ?pl_a6 ?pl_l6 ?pl_c6 ?pl_k6 ?pl_a7 ?pl_l7 ?pl_c7 ?pl_k7 ?pl_a8 ?pl_l8 ?pl_c8 ?pl_k8 ?pl_a9 ?pl_l9 ?pl_c9 ?pl_k9 ?pl_a10 ?pl_l10 ?pl_c10 ?pl_k10 ?pl_a11 ?pl_l11 ?pl_c11 ?pl_k11 ?pl_a12 ?pl_l12 ?pl_c12 ?pl_k12 ?pl_a13 ?pl_l13 ?pl_c13 ?pl_k13 ?pl_a14 ?pl_l14 ?pl_c14 ?pl_k14 ?pl_a15 ?pl_l15 ?pl_c15 ?pl_k15 ?pl_a16 ?pl_l16 ?pl_c16 ?pl_k16 ?pl_a17 ?pl_l17 ?pl_c17 ?pl_k17 ?pl_a18 ?pl_l18 ?pl_c18 ?pl_k18 ?pl_a19 ?pl_l19 ?pl_c19 ?pl_k19 ?pl_a20 ?pl_l20 ?pl_c20 ?pl_k20 ?pl_a21 ?pl_l21 ?pl_c21 ?pl_k21 ?pl_a22 ?pl_l22 ?pl_c22 ?pl_k22 ?pl_a23 ?pl_l23 ?pl_c23 ?pl_k23 ?pl_a24 ?pl_l24 ?pl_c24 ?pl_k24 ?pl_a25 ?pl_l25 ?pl_c25 ?pl_k25 ?pl_a26 ?pl_l26 ?pl_c26 ?pl_k26 ?pl_a27 ?pl_l27 ?pl_c27 ?pl_k27 ?pl_a28 ?pl_l28 ?pl_c28 ?pl_k28 ?pl_a29 ?pl_l29 ?pl_c29 ?pl_k29 ?pl_a30 ?pl_l30 ?pl_c30 ?pl_k30 ?pl_a31 ?pl_l31 ?pl_c31 ?pl_k31 ?pl_a32 ?pl_l32 ?pl_c32 ?pl_k32 ?pl_a33 ?pl_l33 ?pl_c33 ?pl_k33 ?pl_a34 ?pl_l34 ?pl_c34 ?pl_k34 ?pl_a35 ?pl_l35 ?pl_c35 ?pl_k35 ?pl_a36 ?pl_l36 ?pl_c36 ?pl_k36 ?pl_a37 ?pl_l37 ?pl_c37 ?pl_k37 ?pl_a38 ?pl_l38 ?pl_c38 ?pl_k38 ?pl_a39 ?pl_l39 ?pl_c39 ?pl_k39 ?pl_a40 ?pl_l40 ?pl_c40 ?pl_k40 ?pl_a41 ?pl_l41 ?pl_c41 ?pl_k41 ?pl_a42 ?pl_l42 ?pl_c42 ?pl_k42 ?pl_a43 ?pl_l43 ?pl_c43 ?pl_k43 ?pl_a44 ?pl_l44 ?pl_c44 ?pl_k44 ?pl_a45 ?pl_l45 ?pl_c45 ?pl_k45 ?pl_a46 ?pl_l46 ?pl_c46 ?pl_k46 ?pl_a47 ?pl_l47 ?pl_c47 ?pl_k47 ?pl_z0 ?pl_z1 ?pl_z2 ?pl_z3 ?pl_z4 ?pl_z5 ?pl_z6 ?pl_z7 ?pl_z8 ?pl_z9 ?pl_z10 ?pl_z11 ?pl_z12 ?pl_z13 ?pl_g0 ?pl_g1 ?pl_xa0 ?pl_xe0 ?pl_xk0 ?pl_xs0 ?pl_xt0 ?pl_xa1 ?pl_xe1 ?pl_xk1 ?pl_xs1 ?pl_xt1 ?pl_xa2 ?pl_xe2 ?pl_xk2 ?pl_xs2 ?pl_xt2 ?pl_xa3 ?pl_xe3 ?pl_xk3 ?pl_xs3 ?pl_xt3 ?pl_xa4 ?pl_xe4 ?pl_xk4 ?pl_xs4 ?pl_xt4 ?pl_xa5 ?pl_xe5 ?pl_xk5 ?pl_xs5 ?pl_xt5 ?pl_xa6 ?pl_xe6 ?pl_xk6 ?pl_xs6 ?pl_xt6 ?pl_va0 ?pl_vb0 ?pl_vd0 ?pl_vt0 ?pl_vs0 ?pl_zq6 ?pl_zq7 ?pl_ya0 ?pl_ya1 ?pl_ya2 ?pl_ya3 ?pl_ya4 ?pl_ya5 ?pl_yz ?pl_yb0 ?pl_yc0 ?pl_yd0 ?pl_ye0 ?pl_yf0 ?pl_yg0 ?pl_yh0_0 ?pl_yh0_1 ?pl_yh0_2 ?pl_yh0_3 ?pl_yh0_4 ?pl_yh0_5 ?pl_yn0_0 ?pl_yn0_1 ?pl_yn0_2 ?pl_yn0_3 ?pl_yb1 ?pl_yc1 ?pl_yd1 ?pl_ye1 ?pl_yf1 ?pl_yg1 ?pl_yh1_0 ?pl_yh1_1 ?pl_yh1_2 ?pl_yh1_3 ?pl_yh1_4 ?pl_yh1_5 ?pl_yn1_0 ?pl_yn1_1 ?pl_yn1_2 ?pl_yn1_3 ?pl_yb2 ?pl_yc2 ?pl_yd2 ?pl_ye2 ?pl_yf2 ?pl_yg2 ?pl_yh2_0 ?pl_yh2_1 ?pl_yh2_2 ?pl_yh2_3 ?pl_yh2_4 ?pl_yh2_5 ?pl_yn2_0 ?pl_yn2_1 ?pl_yn2_2 ?pl_yn2_3 ?pl_yb3 ?pl_yc3 ?pl_yd3 ?pl_ye3 ?pl_yf3 ?pl_yg3 ?pl_yh3_0 ?pl_yh3_1 ?pl_yh3_2 ?pl_yh3_3 ?pl_yh3_4 ?pl_yh3_5 ?pl_yn3_0 ?pl_yn3_1 ?pl_yn3_2 ?pl_yn3_3 ?pl_yb4 ?pl_yc4 ?pl_yd4 ?pl_ye4 ?pl_yf4 ?pl_yg4 ?pl_yh4_0 ?pl_yh4_1 ?pl_yh4_2 ?pl_yh4_3 ?pl_yh4_4 ?pl_yh4_5 ?pl_yn4_0 ?pl_yn4_1 ?pl_yn4_2 ?pl_yn4_3 ?pl_yb5 ?pl_yc5 ?pl_yd5 ?pl_ye5 ?pl_yf5 ?pl_yg5 ?pl_yh5_0 ?pl_yh5_1 ?pl_yh5_2 ?pl_yh5_3 ?pl_yh5_4 ?pl_yh5_5 ?pl_yn5_0 ?pl_yn5_1 ?pl_yn5_2 ?pl_yn5_3 ?pl_ym2 ?pl_yp2 ?pl_ym0 ?pl_yp0 ?pl_ym5 ?pl_yp5 ?pl_ym3 ?pl_yp3 ?pl_ym4 ?pl_yp4 ?pl_ym1 ?pl_yp1 ?pl_mi2 ?pl_mi0 ?pl_mi5 ?pl_mi3 ?pl_mi4 ?pl_mi1 ?pl_mb0_seen_by ?pl_mb1_seen_by ?pl_mb2_seen_by ?pl_mb3_seen_by ?pl_mb4_seen_by ?pl_mb5_seen_by ?pl_mb1_of_lefts ?pl_mb2_of_lefts ?pl_mb3_of_lefts ?pl_mb4_of_lefts ?pl_mb0_value ?pl_mb1_value ?pl_mb2_value ?pl_mb3_value ?pl_mb4_value ?pl_mb5_value ?pl_mb1_of_fractions ?pl_mb2_of_fractions ?pl_mb3_of_fractions ?pl_mb4_of_fractions ?pl_ml0 ?pl_mc0 ?pl_mk0 ?pl_mf0 ?pl_ml1 ?pl_mc1 ?pl_mk1 ?pl_mf1 ?pl_ml2 ?pl_mc2 ?pl_mk2 ?pl_mf2 ?pl_ml3 ?pl_mc3 ?pl_mk3 ?pl_mf3 ?pl_ml4 ?pl_mc4 ?pl_mk4 ?pl_mf4 ?pl_ml5 ?pl_mc5 ?pl_mk5 ?pl_mf5 ?pl_ml6 ?pl_mc6 ?pl_mk6 ?pl_mf6 ?pl_ml7 ?pl_mc7 ?pl_mk7 ?pl_mf7 ?pl_ml8 ?pl_mc8 ?pl_mk8 ?pl_mf8 ?pl_ml9 ?pl_mc9 ?pl_mk9 ?pl_mf9 ?pl_ml10 ?pl_mc10 ?pl_mk10 ?pl_mf10 ?pl_ml11 ?pl_mc11 ?pl_mk11 ?pl_mf11 ?pl_ml12 ?pl_mc12 ?pl_mk12 ?pl_mf12 ?pl_ml13 ?pl_mc13 ?pl_mk13 ?pl_mf13 ?pl_ml14 ?pl_mc14 ?pl_mk14 ?pl_mf14 ?pl_ml15 ?pl_mc15 ?pl_mk15 ?pl_mf15 ?pl_ml16 ?pl_mc16 ?pl_mk16 ?pl_mf16 ?pl_ga0 ?pl_gb0
    (case pl_a0 => k_is)
    (case pl_l0 => k_is)
    (case pl_c0 => k_is)
    (case pl_k0 => k_is)
    (case pl_a1 => k_is)
    (case pl_l1 => k_is)
    (case pl_c1 => k_is)
    (case pl_k1 => k_is)
    (case pl_a2 => k_is)
    (case pl_l2 => k_is)
    (case pl_c2 => k_is)
    (case pl_k2 => k_is)
    (case pl_a3 => k_is)
    (case pl_l3 => k_is)
    (case pl_c3 => k_is)
    (case pl_k3 => k_is)
    (case pl_a4 => k_is)
    (case pl_l4 => k_is)
    (case pl_c4 => k_is)
    (case pl_k4 => k_is)
    (case pl_a5 => k_is)
    (case pl_l5 => k_is)
    (case pl_c5 => k_is)
    (case pl_k5 => k_is)
    (case pl_lt5 => k_is)
    (case pl_a6 => k_is)
    (case pl_l6 => k_is)
    (case pl_c6 => k_is)
    (case pl_k6 => k_is)
    (case pl_a7 => k_is)
    (case pl_l7 => k_is)
    (case pl_c7 => k_is)
    (case pl_k7 => k_is)
    (case pl_a8 => k_is)
    (case pl_l8 => k_is)
    (case pl_c8 => k_is)
    (case pl_k8 => k_is)
    (case pl_a9 => k_is)
    (case pl_l9 => k_is)
    (case pl_c9 => k_is)
    (case pl_k9 => k_is)
    (case pl_a10 => k_is)
    (case pl_l10 => k_is)
    (case pl_c10 => k_is)
    (case pl_k10 => k_is)
    (case pl_a11 => k_is)
    (case pl_l11 => k_is)
    (case pl_c11 => k_is)
    (case pl_k11 => k_is)
    (case pl_a12 => k_is)
    (case pl_l12 => k_is)
    (case pl_c12 => k_is)
    (case pl_k12 => k_is)
    (case pl_a13 => k_is)
    (case pl_l13 => k_is)
    (case pl_c13 => k_is)
    (case pl_k13 => k_is)
    (case pl_a14 => k_is)
    (case pl_l14 => k_is)
    (case pl_c14 => k_is)
    (case pl_k14 => k_is)
    (case pl_a15 => k_is)
    (case pl_l15 => k_is)
    (case pl_c15 => k_is)
    (case pl_k15 => k_is)
    (case pl_a16 => k_is)
    (case pl_l16 => k_is)
    (case pl_c16 => k_is)
    (case pl_k16 => k_is)
    (case pl_a17 => k_is)
    (case pl_l17 => k_is)
    (case pl_c17 => k_is)
    (case pl_k17 => k_is)
    (case pl_a18 => k_is)
    (case pl_l18 => k_is)
    (case pl_c18 => k_is)
    (case pl_k18 => k_is)
    (case pl_a19 => k_is)
    (case pl_l19 => k_is)
    (case pl_c19 => k_is)
    (case pl_k19 => k_is)
    (case pl_a20 => k_is)
    (case pl_l20 => k_is)
    (case pl_c20 => k_is)
    (case pl_k20 => k_is)
    (case pl_a21 => k_is)
    (case pl_l21 => k_is)
    (case pl_c21 => k_is)
    (case pl_k21 => k_is)
    (case pl_a22 => k_is)
    (case pl_l22 => k_is)
    (case pl_c22 => k_is)
    (case pl_k22 => k_is)
    (case pl_a23 => k_is)
    (case pl_l23 => k_is)
    (case pl_c23 => k_is)
    (case pl_k23 => k_is)
    (case pl_a24 => k_is)
    (case pl_l24 => k_is)
    (case pl_c24 => k_is)
    (case pl_k24 => k_is)
    (case pl_a25 => k_is)
    (case pl_l25 => k_is)
    (case pl_c25 => k_is)
    (case pl_k25 => k_is)
    (case pl_a26 => k_is)
    (case pl_l26 => k_is)
    (case pl_c26 => k_is)
    (case pl_k26 => k_is)
    (case pl_a27 => k_is)
    (case pl_l27 => k_is)
    (case pl_c27 => k_is)
    (case pl_k27 => k_is)
    (case pl_a28 => k_is)
    (case pl_l28 => k_is)
    (case pl_c28 => k_is)
    (case pl_k28 => k_is)
    (case pl_a29 => k_is)
    (case pl_l29 => k_is)
    (case pl_c29 => k_is)
    (case pl_k29 => k_is)
    (case pl_a30 => k_is)
    (case pl_l30 => k_is)
    (case pl_c30 => k_is)
    (case pl_k30 => k_is)
    (case pl_a31 => k_is)
    (case pl_l31 => k_is)
    (case pl_c31 => k_is)
    (case pl_k31 => k_is)
    (case pl_a32 => k_is)
    (case pl_l32 => k_is)
    (case pl_c32 => k_is)
    (case pl_k32 => k_is)
    (case pl_a33 => k_is)
    (case pl_l33 => k_is)
    (case pl_c33 => k_is)
    (case pl_k33 => k_is)
    (case pl_a34 => k_is)
    (case pl_l34 => k_is)
    (case pl_c34 => k_is)
    (case pl_k34 => k_is)
    (case pl_a35 => k_is)
    (case pl_l35 => k_is)
    (case pl_c35 => k_is)
    (case pl_k35 => k_is)
    (case pl_a36 => k_is)
    (case pl_l36 => k_is)
    (case pl_c36 => k_is)
    (case pl_k36 => k_is)
    (case pl_a37 => k_is)
    (case pl_l37 => k_is)
    (case pl_c37 => k_is)
    (case pl_k37 => k_is)
    (case pl_a38 => k_is)
    (case pl_l38 => k_is)
    (case pl_c38 => k_is)
    (case pl_k38 => k_is)
    (case pl_a39 => k_is)
    (case pl_l39 => k_is)
    (case pl_c39 => k_is)
    (case pl_k39 => k_is)
    (case pl_a40 => k_is)
    (case pl_l40 => k_is)
    (case pl_c40 => k_is)
    (case pl_k40 => k_is)
    (case pl_a41 => k_is)
    (case pl_l41 => k_is)
    (case pl_c41 => k_is)
    (case pl_k41 => k_is)
    (case pl_a42 => k_is)
    (case pl_l42 => k_is)
    (case pl_c42 => k_is)
    (case pl_k42 => k_is)
    (case pl_a43 => k_is)
    (case pl_l43 => k_is)
    (case pl_c43 => k_is)
    (case pl_k43 => k_is)
    (case pl_a44 => k_is)
    (case pl_l44 => k_is)
    (case pl_c44 => k_is)
    (case pl_k44 => k_is)
    (case pl_a45 => k_is)
    (case pl_l45 => k_is)
    (case pl_c45 => k_is)
    (case pl_k45 => k_is)
    (case pl_a46 => k_is)
    (case pl_l46 => k_is)
    (case pl_c46 => k_is)
    (case pl_k46 => k_is)
    (case pl_a47 => k_is)
    (case pl_l47 => k_is)
    (case pl_c47 => k_is)
    (case pl_k47 => k_is)
    (case pl_z0 => k_is)
    (case pl_z1 => k_is)
    (case pl_z2 => k_is)
    (case pl_z3 => k_is)
    (case pl_z4 => k_is)
    (case pl_z5 => k_is)
    (case pl_z6 => k_is)
    (case pl_z7 => k_is)
    (case pl_z8 => k_is)
    (case pl_z9 => k_is)
    (case pl_z10 => k_is)
    (case pl_z11 => k_is)
    (case pl_z12 => k_is)
    (case pl_z13 => k_is)
    (case pl_g0 => k_is)
    (case pl_g1 => k_is)
    (case pl_xa0 => k_is)
    (case pl_xe0 => k_exc)
    (case pl_xk0 => k_is)
    (case pl_xs0 => k_is)
    (case pl_xt0 => k_is)
    (case pl_xa1 => k_is)
    (case pl_xe1 => k_exc)
    (case pl_xk1 => k_is)
    (case pl_xs1 => k_is)
    (case pl_xt1 => k_is)
    (case pl_xa2 => k_is)
    (case pl_xe2 => k_exc)
    (case pl_xk2 => k_is)
    (case pl_xs2 => k_is)
    (case pl_xt2 => k_is)
    (case pl_xa3 => k_is)
    (case pl_xe3 => k_exc)
    (case pl_xk3 => k_is)
    (case pl_xs3 => k_is)
    (case pl_xt3 => k_is)
    (case pl_xa4 => k_is)
    (case pl_xe4 => k_exc)
    (case pl_xk4 => k_is)
    (case pl_xs4 => k_is)
    (case pl_xt4 => k_is)
    (case pl_xa5 => k_is)
    (case pl_xe5 => k_exc)
    (case pl_xk5 => k_is)
    (case pl_xs5 => k_is)
    (case pl_xt5 => k_is)
    (case pl_xa6 => k_is)
    (case pl_xe6 => k_exc)
    (case pl_xk6 => k_is)
    (case pl_xs6 => k_is)
    (case pl_xt6 => k_is)
    (case pl_va0 => k_is)
    (case pl_vb0 => k_is)
    (case pl_vd0 => k_is)
    (case pl_vt0 => k_is)
    (case pl_vs0 => k_is)
    (case pl_zq6 => k_is)
    (case pl_zq7 => k_is)
    (case pl_ya0 => k_is)
    (case pl_ya1 => k_is)
    (case pl_ya2 => k_is)
    (case pl_ya3 => k_is)
    (case pl_ya4 => k_is)
    (case pl_ya5 => k_is)
    (case pl_yz => decide)
    (case pl_yb0 => k_is)
    (case pl_yc0 => k_is)
    (case pl_yd0 => k_is)
    (case pl_ye0 => k_is)
    (case pl_yf0 => k_is)
    (case pl_yg0 => k_is)
    (case pl_yh0_0 => kit_is)
    (case pl_yh0_1 => kit_is)
    (case pl_yh0_2 => kit_is)
    (case pl_yh0_3 => kit_is)
    (case pl_yh0_4 => kit_is)
    (case pl_yh0_5 => kit_is)
    (case pl_yn0_0 => k_is)
    (case pl_yn0_1 => k_is)
    (case pl_yn0_2 => k_is)
    (case pl_yn0_3 => k_is)
    (case pl_yb1 => k_is)
    (case pl_yc1 => k_is)
    (case pl_yd1 => k_is)
    (case pl_ye1 => k_is)
    (case pl_yf1 => k_is)
    (case pl_yg1 => k_is)
    (case pl_yh1_0 => kit_is)
    (case pl_yh1_1 => kit_is)
    (case pl_yh1_2 => kit_is)
    (case pl_yh1_3 => kit_is)
    (case pl_yh1_4 => kit_is)
    (case pl_yh1_5 => kit_is)
    (case pl_yn1_0 => k_is)
    (case pl_yn1_1 => k_is)
    (case pl_yn1_2 => k_is)
    (case pl_yn1_3 => k_is)
    (case pl_yb2 => k_is)
    (case pl_yc2 => k_is)
    (case pl_yd2 => k_is)
    (case pl_ye2 => k_is)
    (case pl_yf2 => k_is)
    (case pl_yg2 => k_is)
    (case pl_yh2_0 => kit_is)
    (case pl_yh2_1 => kit_is)
    (case pl_yh2_2 => kit_is)
    (case pl_yh2_3 => kit_is)
    (case pl_yh2_4 => kit_is)
    (case pl_yh2_5 => kit_is)
    (case pl_yn2_0 => k_is)
    (case pl_yn2_1 => k_is)
    (case pl_yn2_2 => k_is)
    (case pl_yn2_3 => k_is)
    (case pl_yb3 => k_is)
    (case pl_yc3 => k_is)
    (case pl_yd3 => k_is)
    (case pl_ye3 => k_is)
    (case pl_yf3 => k_is)
    (case pl_yg3 => k_is)
    (case pl_yh3_0 => kit_is)
    (case pl_yh3_1 => kit_is)
    (case pl_yh3_2 => kit_is)
    (case pl_yh3_3 => kit_is)
    (case pl_yh3_4 => kit_is)
    (case pl_yh3_5 => kit_is)
    (case pl_yn3_0 => k_is)
    (case pl_yn3_1 => k_is)
    (case pl_yn3_2 => k_is)
    (case pl_yn3_3 => k_is)
    (case pl_yb4 => k_is)
    (case pl_yc4 => k_is)
    (case pl_yd4 => k_is)
    (case pl_ye4 => k_is)
    (case pl_yf4 => k_is)
    (case pl_yg4 => k_is)
    (case pl_yh4_0 => kit_is)
    (case pl_yh4_1 => kit_is)
    (case pl_yh4_2 => kit_is)
    (case pl_yh4_3 => kit_is)
    (case pl_yh4_4 => kit_is)
    (case pl_yh4_5 => kit_is)
    (case pl_yn4_0 => k_is)
    (case pl_yn4_1 => k_is)
    (case pl_yn4_2 => k_is)
    (case pl_yn4_3 => k_is)
    (case pl_yb5 => k_is)
    (case pl_yc5 => k_is)
    (case pl_yd5 => k_is)
    (case pl_ye5 => k_is)
    (case pl_yf5 => k_is)
    (case pl_yg5 => k_is)
    (case pl_yh5_0 => kit_is)
    (case pl_yh5_1 => kit_is)
    (case pl_yh5_2 => kit_is)
    (case pl_yh5_3 => kit_is)
    (case pl_yh5_4 => kit_is)
    (case pl_yh5_5 => kit_is)
    (case pl_yn5_0 => k_is)
    (case pl_yn5_1 => k_is)
    (case pl_yn5_2 => k_is)
    (case pl_yn5_3 => k_is)
    (case pl_ym2 => k_is)
    (case pl_yp2 => k_is)
    (case pl_ym0 => k_is)
    (case pl_yp0 => k_is)
    (case pl_ym5 => k_is)
    (case pl_yp5 => k_is)
    (case pl_ym3 => k_is)
    (case pl_yp3 => k_is)
    (case pl_ym4 => k_is)
    (case pl_yp4 => k_is)
    (case pl_ym1 => k_is)
    (case pl_yp1 => k_is)
    (case pl_mi2 => k_is)
    (case pl_mi0 => k_is)
    (case pl_mi5 => k_is)
    (case pl_mi3 => k_is)
    (case pl_mi4 => k_is)
    (case pl_mi1 => k_is)
    (case pl_mb0_seen_by => k_is)
    (case pl_mb1_seen_by => k_is)
    (case pl_mb2_seen_by => k_is)
    (case pl_mb3_seen_by => k_is)
    (case pl_mb4_seen_by => k_is)
    (case pl_mb5_seen_by => k_is)
    (case pl_mb1_of_lefts => k_is)
    (case pl_mb2_of_lefts => k_is)
    (case pl_mb3_of_lefts => k_is)
    (case pl_mb4_of_lefts => k_is)
    (case pl_mb0_value => k_is)
    (case pl_mb1_value => k_is)
    (case pl_mb2_value => k_is)
    (case pl_mb3_value => k_is)
    (case pl_mb4_value => k_is)
    (case pl_mb5_value => k_is)
    (case pl_mb1_of_fractions => k_is)
    (case pl_mb2_of_fractions => k_is)
    (case pl_mb3_of_fractions => k_is)
    (case pl_mb4_of_fractions => k_is)
    (case pl_ml0 => k_is)
    (case pl_mc0 => k_is)
    (case pl_mk0 => k_is)
    (case pl_mf0 => k_is)
    (case pl_ml1 => k_is)
    (case pl_mc1 => k_is)
    (case pl_mk1 => k_is)
    (case pl_mf1 => k_is)
    (case pl_ml2 => k_is)
    (case pl_mc2 => k_is)
    (case pl_mk2 => k_is)
    (case pl_mf2 => k_is)
    (case pl_ml3 => k_is)
    (case pl_mc3 => k_is)
    (case pl_mk3 => k_is)
    (case pl_mf3 => k_is)
    (case pl_ml4 => k_is)
    (case pl_mc4 => k_is)
    (case pl_mk4 => k_is)
    (case pl_mf4 => k_is)
    (case pl_ml5 => k_is)
    (case pl_mc5 => k_is)
    (case pl_mk5 => k_is)
    (case pl_mf5 => k_is)
    (case pl_ml6 => k_is)
    (case pl_mc6 => k_is)
    (case pl_mk6 => k_is)
    (case pl_mf6 => k_is)
    (case pl_ml7 => k_is)
    (case pl_mc7 => k_is)
    (case pl_mk7 => k_is)
    (case pl_mf7 => k_is)
    (case pl_ml8 => k_is)
    (case pl_mc8 => k_is)
    (case pl_mk8 => k_is)
    (case pl_mf8 => k_is)
    (case pl_ml9 => k_is)
    (case pl_mc9 => k_is)
    (case pl_mk9 => k_is)
    (case pl_mf9 => k_is)
    (case pl_ml10 => k_is)
    (case pl_mc10 => k_is)
    (case pl_mk10 => k_is)
    (case pl_mf10 => k_is)
    (case pl_ml11 => k_is)
    (case pl_mc11 => k_is)
    (case pl_mk11 => k_is)
    (case pl_mf11 => k_is)
    (case pl_ml12 => k_is)
    (case pl_mc12 => k_is)
    (case pl_mk12 => k_is)
    (case pl_mf12 => k_is)
    (case pl_ml13 => k_is)
    (case pl_mc13 => k_is)
    (case pl_mk13 => k_is)
    (case pl_mf13 => k_is)
    (case pl_ml14 => k_is)
    (case pl_mc14 => k_is)
    (case pl_mk14 => k_is)
    (case pl_mf14 => k_is)
    (case pl_ml15 => k_is)
    (case pl_mc15 => k_is)
    (case pl_mk15 => k_is)
    (case pl_mf15 => k_is)
    (case pl_ml16 => k_is)
    (case pl_mc16 => k_is)
    (case pl_mk16 => k_is)
    (case pl_mf16 => k_is)
    (case pl_ga0 => k_is)
    (case pl_gb0 => k_is)
