import PyProof.Rows.All
import Wide.All
import OpenK.AllK
import Wide.FinOn
import HandS.ForMost
import HandS.ForExc
import HandS.Wide
import HandS.WideBits
import HandS.WideMore
import HandS.IsInst
import HandS.CallSlots
import HandS.Rev
import HandS.TupAny
import HandS.Flow
import HandS.Defaults
import HandS.EndBits
import HandS.HotCalls
import HandS.ExcIs
import HandS.SuiteRaise
import PyProof.LongRange
import HandS.Deep
import HandS.Flt
import HandS.TryOnly
import HandS.Comp
import HandS.Conv
import HandS.SortInts
import HandS.TupLe
import KE.SortData
import KE.DataCmp
import HandS.TupMul
import HandS.Text
import HandS.StrMore
import HandS.TryElse
import KE.KStateDown
import HandS.Head0
import HandS.Head1
import HandS.Head2
import HandS.HeadEnd
import HandS.HeadHook1
import HandS.HeadHook2
import PyProof.StrOps2
import HandS.Codes
import PyProof.SumAnyB
import PySem.Challenge.RW_leftnumbers_k92_terms_refused
set_option Elab.async false
set_option linter.all false
set_option maxRecDepth 100000
set_option autoImplicit false
namespace PL
open PySem PySem.Spec L2
open PyProof.Rows hiding St
/-- plain values -/
inductive PV where
  | non | bl (b : Bool) | int (i : Int) | str (s : Str)
  | tup (l : List PV) | lst (l : List PV) | frz (l : List PV) | dct
  | dt (l : List ((Int × Int) × Int)) | obj (C : Addr) (ns : List Str) (fs : List PV)
/-- what an evaluation comes to -/
inductive R (α : Type) where
  | ok (a : α) | exc (c : Str) | stuck
def R.bind {α β : Type} (x : R α) (k : α → R β) : R β := match x with
  | .ok a => k a | .exc c => .exc c | .stuck => .stuck
theorem R.bind_ok {α β : Type} (a : α) (k : α → R β) : (R.ok a).bind k = k a := rfl
/-- a slot: nothing yet; a value that may be shared; a list that this def made and nobody else holds -/
inductive Slot where
  | un | val (p : PV) | own (l : List PV) | ex (a : Addr) | dd (a : Addr) (l : List ((Int × Int) × Int))
abbrev Rho := List Slot
/-- a written tuple, not a pair -/
def KT (K : PySem.W.Frag) (a : Addr) (xs : List V) : Prop :=
  ∃ (o : Obj) (its : Array Value) (n : Nat), K.lookup a = some o ∧ o.cls = .type "tuple" ∧ o.data = .seq its n ∧ its.size ≤ sizeLine ∧ Vals xs its.toList ∧ xs.length ≠ 2
theorem KT.sq {K : PySem.W.Frag} {H : Hp} {a : Addr} {xs : List V} (h : KT K a xs) : SqT K H a xs := by
  obtain ⟨o, its, n, h1, h2, h3, h4, h5, _⟩ := h
  exact .inr ⟨o, its, n, h1, h2, h3, h4, h5⟩
/-- a dict by pairs of whole numbers, as the heap has it -/
def encD (l : List ((Int × Int) × Int)) : List (List L2.Key × V) := l.map fun e => ([.inl e.1.1, .inl e.1.2], V.int e.2)
/-- a class of one's own whose instances are plain: what is known of it -/
structure ObjC (K : PySem.W.Frag) (C : Addr) : Prop where
  cl : Cls K C
  ha : PySem.W.findIn K (.ref C) "__class__" = some (some (.builtin "object.__class__"))
  hn : PySem.W.specialIn K (.builtin "object.__class__") "__get__" = some (some (.builtin "getset_descriptor.__get__"))
  ht : PySem.W.takesIn K (.builtin "object.__class__") = some true
  hm : PySem.W.mroIn K C (.type "object") = some true
  kit : ∀ n ∈ (["int", "bool", "str", "tuple", "list", "dict"] : List String), PySem.W.kitOne K (.ref C) (.type n) = some false
  na : ∀ f ∈ (["part", "one", "other", "n"] : List Str), PySem.W.findIn K (.ref C) f = some none
mutual
inductive Rep (K : PySem.W.Frag) (H : Hp) (O : Addr → Prop) : V → PV → Prop
  | non : Rep K H O .non .non
  | bl (b : Bool) : Rep K H O (.bl b) (.bl b)
  | int (i : Int) : Rep K H O (.int i) (.int i)
  | str (x : Str) : Rep K H O (.str x) (.str x)
  | lst {a : Addr} {xs : List V} {ps : List PV} : H a = some (.lst xs) → ¬ O a → Reps K H O xs ps → Rep K H O (.ref a) (.lst ps)
  | tup {a : Addr} {xs : List V} {ps : List PV} : (H a = some (.tup xs) ∧ ¬ O a ∨ KT K a xs) → Reps K H O xs ps → Rep K H O (.ref a) (.tup ps)
  | frz {a : Addr} {ns : List Int} : ((∃ o, H a = some (.frz o (.lst (ns.map V.int)))) ∧ ¬ O a ∨ ((∀ H', SqL K H' a (ns.map V.int)))) → Rep K H O (.ref a) (.frz (ns.map PV.int))
  | dct {a : Addr} {kvs : List (L2.Key × V)} : H a = some (.dK kvs) → ¬ O a → Rep K H O (.ref a) .dct
  | dt {a : Addr} {l : List ((Int × Int) × Int)} : H a = some (.dT (encD l)) → ¬ O a → Rep K H O (.ref a) (.dt l)
  | obj {a C dx : Addr} {fs : List (Str × V)} {ns : List Str} {ps : List PV} : H a = some (.ins C dx fs) → ¬ O a → fs.map (·.1) = ns → ObjC K C → Reps K H O (fs.map (·.2)) ps → Rep K H O (.ref a) (.obj C ns ps)
inductive Reps (K : PySem.W.Frag) (H : Hp) (O : Addr → Prop) : List V → List PV → Prop
  | nil : Reps K H O [] []
  | cons {v : V} {vs : List V} {p : PV} {ps : List PV} : Rep K H O v p → Reps K H O vs ps → Reps K H O (v :: vs) (p :: ps)
end
section
variable {K : PySem.W.Frag} {H H' : Hp} {O O' : Addr → Prop}
mutual
theorem Rep.mono (hk : ∀ a o, H a = some o → ¬ O a → H' a = some o ∧ ¬ O' a) : ∀ {v : V} {p : PV}, Rep K H O v p → Rep K H' O' v p
  | _, _, .non => .non
  | _, _, .bl b => .bl b
  | _, _, .int i => .int i
  | _, _, .str x => .str x
  | _, _, .lst h n r => .lst (hk _ _ h n).1 (hk _ _ h n).2 (Reps.mono hk r)
  | _, _, .tup (.inl ⟨h, n⟩) r => .tup (.inl ⟨(hk _ _ h n).1, (hk _ _ h n).2⟩) (Reps.mono hk r)
  | _, _, .tup (.inr h) r => .tup (.inr h) (Reps.mono hk r)
  | _, _, .frz (.inl ⟨⟨o, h⟩, n⟩) => .frz (.inl ⟨⟨o, (hk _ _ h n).1⟩, (hk _ _ h n).2⟩)
  | _, _, .frz (.inr h) => .frz (.inr h)
  | _, _, .dct h n => .dct (hk _ _ h n).1 (hk _ _ h n).2
  | _, _, .dt h n => .dt (hk _ _ h n).1 (hk _ _ h n).2
  | _, _, .obj h n e c r => .obj (hk _ _ h n).1 (hk _ _ h n).2 e c (Reps.mono hk r)
theorem Reps.mono (hk : ∀ a o, H a = some o → ¬ O a → H' a = some o ∧ ¬ O' a) : ∀ {v : List V} {p : List PV}, Reps K H O v p → Reps K H' O' v p
  | _, _, .nil => .nil
  | _, _, .cons h r => .cons (Rep.mono hk h) (Reps.mono hk r)
end
theorem Rep.same {v : V} {p : PV} (s : Same H H') (r : Rep K H O v p) : Rep K H' O v p := r.mono fun a o h n => ⟨s a o h, n⟩
theorem Reps.same {v : List V} {p : List PV} (s : Same H H') (r : Reps K H O v p) : Reps K H' O v p := r.mono fun a o h n => ⟨s a o h, n⟩
theorem Rep.less {v : V} {p : PV} (s : ∀ a, O' a → O a) (r : Rep K H O v p) : Rep K H O' v p := r.mono fun a o h n => ⟨h, fun z => n (s a z)⟩
theorem Reps.less {v : List V} {p : List PV} (s : ∀ a, O' a → O a) (r : Reps K H O v p) : Reps K H O' v p := r.mono fun a o h n => ⟨h, fun z => n (s a z)⟩
theorem Reps.length : ∀ {vs : List V} {ps : List PV}, Reps K H O vs ps → vs.length = ps.length
  | _, _, .nil => rfl
  | _, _, .cons _ r => by rw [List.length_cons, List.length_cons, Reps.length r]
theorem Reps.get : ∀ {vs : List V} {ps : List PV} {i : Nat} {p : PV}, Reps K H O vs ps → ps[i]? = some p → ∃ v, vs[i]? = some v ∧ Rep K H O v p
  | _, _, 0, _, .cons h _, e => ⟨_, rfl, by simp at e; exact e ▸ h⟩
  | _, _, i + 1, p, .cons _ r, e => by
    obtain ⟨v, h1, h2⟩ := Reps.get (i := i) (p := p) r (by simpa using e)
    exact ⟨v, by simpa using h1, h2⟩
theorem Reps.get' : ∀ {vs : List V} {ps : List PV} {i : Nat} {v : V}, Reps K H O vs ps → vs[i]? = some v → ∃ p, ps[i]? = some p ∧ Rep K H O v p
  | _, _, 0, _, .cons h _, e => ⟨_, rfl, by simp at e; exact e ▸ h⟩
  | _, _, i + 1, v, .cons _ r, e => by
    obtain ⟨p, h1, h2⟩ := Reps.get' (i := i) (v := v) r (by simpa using e)
    exact ⟨p, by simpa using h1, h2⟩
theorem Reps.append : ∀ {vs ws : List V} {ps qs : List PV}, Reps K H O vs ps → Reps K H O ws qs → Reps K H O (vs ++ ws) (ps ++ qs)
  | _, _, _, _, .nil, s => s
  | _, _, _, _, .cons h r, s => .cons h (Reps.append r s)
theorem Reps.take : ∀ {vs : List V} {ps : List PV} (n : Nat), Reps K H O vs ps → Reps K H O (vs.take n) (ps.take n)
  | _, _, 0, _ => .nil
  | _, _, _ + 1, .nil => .nil
  | _, _, n + 1, .cons h r => .cons h (Reps.take n r)
theorem Reps.drop : ∀ {vs : List V} {ps : List PV} (n : Nat), Reps K H O vs ps → Reps K H O (vs.drop n) (ps.drop n)
  | _, _, 0, r => r
  | _, _, _ + 1, .nil => .nil
  | _, _, n + 1, .cons _ r => Reps.drop n r
theorem Reps.set {v : V} {p : PV} (h : Rep K H O v p) : ∀ {vs : List V} {ps : List PV} (n : Nat), Reps K H O vs ps → Reps K H O (vs.set n v) (ps.set n p)
  | _, _, _, .nil => .nil
  | _, _, 0, .cons _ r => .cons h r
  | _, _, n + 1, .cons q r => .cons q (Reps.set h n r)
theorem Reps.reverse {vs : List V} {ps : List PV} (h : Reps K H O vs ps) : Reps K H O vs.reverse ps.reverse := by
  induction vs generalizing ps with
  | nil => cases h; exact .nil
  | cons v vs ih => cases h with
    | cons a r => rw [List.reverse_cons, List.reverse_cons]; exact (ih r).append (.cons a .nil)
theorem Reps.dropLast {vs : List V} {ps : List PV} (h : Reps K H O vs ps) : Reps K H O vs.dropLast ps.dropLast := by
  rw [List.dropLast_eq_take, List.dropLast_eq_take, h.length]; exact h.take _
theorem Reps.ofInts : ∀ (ns : List Int), Reps K H O (ns.map V.int) (ns.map PV.int)
  | [] => .nil
  | n :: ns => .cons (.int n) (Reps.ofInts ns)
theorem Reps.bls : ∀ {ns : List Bool} {vs : List V}, Reps K H O vs (ns.map PV.bl) → vs = ns.map V.bl
  | [], _, .nil => rfl
  | n :: ns, _, .cons h r => by cases h; rw [Reps.bls r]; rfl
theorem Reps.ofStrs : ∀ (ns : List Str), Reps K H O (ns.map V.str) (ns.map PV.str)
  | [] => .nil
  | n :: ns => .cons (.str n) (Reps.ofStrs ns)
end
/-- the addresses that nobody else may hold: those from outside, those of the slots -/
def OO (O0 : Addr → Prop) (σ : St) (ρ : Rho) : Addr → Prop := fun a => O0 a ∨ ∃ (i : Nat) (ps : List PV), ρ[i]? = some (.own ps) ∧ σ[i]? = some (some (.ref a))
structure StR (K : PySem.W.Frag) (H0 : Hp) (O0 : Addr → Prop) (H : Hp) (σ : St) (ρ : Rho) : Prop where
  len : σ.length = ρ.length
  same : Same H0 H
  all0 : ∀ a, O0 a → H a ≠ none
  own : ∀ (i : Nat) (ps : List PV), ρ[i]? = some (.own ps) → ∃ (a : Addr) (vs : List V), σ[i]? = some (some (.ref a)) ∧ H a = some (.lst vs) ∧ H0 a = none ∧ ¬ O0 a ∧ Reps K H (OO O0 σ ρ) vs ps
  dis : ∀ (i j : Nat) (a : Addr) (ps qs : List PV), ρ[i]? = some (.own ps) → ρ[j]? = some (.own qs) → σ[i]? = some (some (.ref a)) → σ[j]? = some (some (.ref a)) → i = j
  val : ∀ (i : Nat) (p : PV), ρ[i]? = some (.val p) → ∃ (v : V), σ[i]? = some (some v) ∧ Rep K H (OO O0 σ ρ) v p
  exs : ∀ (i : Nat) (a : Addr), ρ[i]? = some (.ex a) → σ[i]? = some (some (.ref a))
  dds : ∀ (i : Nat) (a : Addr) (l : List ((Int × Int) × Int)), ρ[i]? = some (.dd a l) → σ[i]? = some (some (.ref a)) ∧ H a = some (.dT (encD l)) ∧ O0 a ∧ H0 a = none ∧ ∀ (j : Nat) (l' : List ((Int × Int) × Int)), ρ[j]? = some (.dd a l') → j = i
def DdOk (H0 : Hp) (O0 : Addr → Prop) (H : Hp) (σ : St) (ρ : Rho) : Prop := ∀ (i : Nat) (a : Addr) (l : List ((Int × Int) × Int)), ρ[i]? = some (.dd a l) → σ[i]? = some (some (.ref a)) ∧ H a = some (.dT (encD l)) ∧ O0 a ∧ H0 a = none ∧ ∀ (j : Nat) (l' : List ((Int × Int) × Int)), ρ[j]? = some (.dd a l') → j = i
theorem dds_later {H0 H H' : Hp} {O0 : Addr → Prop} {σ : St} {ρ : Rho} (h : DdOk H0 O0 H σ ρ) (k : ∀ a l, H a = some (.dT l) → H' a = some (.dT l)) : DdOk H0 O0 H' σ ρ := fun i a l e => by
  obtain ⟨e1, e2, e3, e4⟩ := h i a l e
  exact ⟨e1, k _ _ e2, e3, e4⟩
theorem dd_old {ρ : Rho} {i j : Nat} {s : Slot} {a : Addr} {l : List ((Int × Int) × Int)} (hs : ∀ a l, s ≠ .dd a l) (h : (ρ.set i s)[j]? = some (.dd a l)) : ρ[j]? = some (.dd a l) := by
  by_cases q : i = j
  · subst q
    by_cases hi : i < ρ.length
    · rw [List.getElem?_set_self hi] at h
      exact absurd (Option.some.inj h) (hs a l)
    · rw [List.getElem?_eq_none (by rw [List.length_set]; omega)] at h; cases h
  · rw [List.getElem?_set_ne q] at h
    exact h
theorem dds_set {H0 H : Hp} {O0 : Addr → Prop} {σ : St} {ρ : Rho} (h : DdOk H0 O0 H σ ρ) {i : Nat} {v : Option V} {s : Slot} (hs : ∀ a l, s ≠ .dd a l) : DdOk H0 O0 H (σ.set i v) (ρ.set i s) := fun j a l e => by
  by_cases q : i = j
  · subst q
    by_cases hi : i < ρ.length
    · rw [List.getElem?_set_self hi] at e
      exact absurd (Option.some.inj e) (hs a l)
    · rw [List.getElem?_eq_none (by rw [List.length_set]; omega)] at e; cases e
  · rw [List.getElem?_set_ne q] at e ⊢
    obtain ⟨e1, e2, e3, e4, e5⟩ := h j a l e
    exact ⟨e1, e2, e3, e4, fun m l' z => e5 m l' (dd_old hs z)⟩
theorem dds_setR {H0 H : Hp} {O0 : Addr → Prop} {σ : St} {ρ : Rho} (h : DdOk H0 O0 H σ ρ) {i : Nat} {s : Slot} (hs : ∀ a l, s ≠ .dd a l) : DdOk H0 O0 H σ (ρ.set i s) := fun j a l e => by
  by_cases q : i = j
  · subst q
    by_cases hi : i < ρ.length
    · rw [List.getElem?_set_self hi] at e
      exact absurd (Option.some.inj e) (hs a l)
    · rw [List.getElem?_eq_none (by rw [List.length_set]; omega)] at e; cases e
  · rw [List.getElem?_set_ne q] at e
    obtain ⟨e1, e2, e3, e4, e5⟩ := h j a l e
    exact ⟨e1, e2, e3, e4, fun m l' z => e5 m l' (dd_old hs z)⟩
theorem exs_set {σ : St} {ρ : Rho} (hl : σ.length = ρ.length) (h : ∀ (i : Nat) (a : Addr), ρ[i]? = some (.ex a) → σ[i]? = some (some (.ref a))) {i : Nat} {v : Option V} {s : Slot} (hs : ∀ a, s = .ex a → v = some (.ref a)) : ∀ (j : Nat) (a : Addr), (ρ.set i s)[j]? = some (.ex a) → (σ.set i v)[j]? = some (some (.ref a)) := fun j a e => by
  by_cases q : i = j
  · subst q
    by_cases hi : i < ρ.length
    · rw [List.getElem?_set_self hi] at e
      rw [List.getElem?_set_self (by rw [hl]; exact hi), hs a (Option.some.inj e)]
    · rw [List.getElem?_eq_none (by rw [List.length_set]; omega)] at e; cases e
  · rw [List.getElem?_set_ne q] at e ⊢
    exact h j a e
theorem exs_setR {σ : St} {ρ : Rho} (h : ∀ (i : Nat) (a : Addr), ρ[i]? = some (.ex a) → σ[i]? = some (some (.ref a))) {i : Nat} {s : Slot} (hs : ∀ a, s ≠ .ex a) : ∀ (j : Nat) (a : Addr), (ρ.set i s)[j]? = some (.ex a) → σ[j]? = some (some (.ref a)) := fun j a e => by
  by_cases q : i = j
  · subst q
    by_cases hi : i < ρ.length
    · rw [List.getElem?_set_self hi] at e
      exact absurd (Option.some.inj e) (hs a)
    · rw [List.getElem?_eq_none (by rw [List.length_set]; omega)] at e; cases e
  · rw [List.getElem?_set_ne q] at e
    exact h j a e
section
variable {K : PySem.W.Frag} {H0 H H' : Hp} {O0 : Addr → Prop} {σ : St} {ρ : Rho}
theorem StR.there (S : StR K H0 O0 H σ ρ) {a : Addr} (h : OO O0 σ ρ a) : H a ≠ none := by
  rcases h with h | ⟨i, ps, h1, h2⟩
  · exact S.all0 a h
  · obtain ⟨b, vs, e1, e2, _⟩ := S.own i ps h1
    rw [h2] at e1; cases e1
    rw [e2]; exact fun z => nomatch z
theorem StR.step (S : StR K H0 O0 H σ ρ) (s : Same H H') : StR K H0 O0 H' σ ρ :=
  ⟨S.len, S.same.trans s, fun a h z => S.all0 a h (s.free z), fun i ps h => let ⟨a, vs, e1, e2, e3, e5, e4⟩ := S.own i ps h; ⟨a, vs, e1, s _ _ e2, e3, e5, e4.same s⟩, S.dis, fun i p h => let ⟨v, e1, e2⟩ := S.val i p h; ⟨v, e1, e2.same s⟩, S.exs, dds_later S.dds fun _ _ e => s _ _ e⟩
theorem OO.set_val {i : Nat} {v : Option V} {s : Slot} (hs : ∀ ps, s ≠ .own ps) {a : Addr} (h : OO O0 (σ.set i v) (ρ.set i s) a) : OO O0 σ ρ a := by
  rcases h with h | ⟨j, ps, h1, h2⟩
  · exact .inl h
  · by_cases e : i = j
    · subst e
      by_cases hl : i < ρ.length
      · rw [List.getElem?_set_self hl] at h1; exact absurd (Option.some.inj h1) (hs ps)
      · rw [List.getElem?_eq_none (by rw [List.length_set]; omega)] at h1; cases h1
    · rw [List.getElem?_set_ne e] at h1 h2
      exact .inr ⟨j, ps, h1, h2⟩
/-- a slot is set to a shared value (or emptied) -/
theorem StR.set (S : StR K H0 O0 H σ ρ) {i : Nat} {v : Option V} {s : Slot} (hs : ∀ ps, s ≠ .own ps) (hv : ∀ p, s = .val p → ∃ w, v = some w ∧ Rep K H (OO O0 σ ρ) w p) (hx : ∀ a, s = .ex a → v = some (.ref a) := by intro _ z; cases z) (hd : ∀ a l, s ≠ .dd a l := by intro _ _ z; cases z) : StR K H0 O0 H (σ.set i v) (ρ.set i s) := by
  have less : ∀ a, OO O0 (σ.set i v) (ρ.set i s) a → OO O0 σ ρ a := fun a h => OO.set_val hs h
  refine ⟨by rw [List.length_set, List.length_set, S.len], S.same, S.all0, fun j ps h => ?_, fun j k a ps qs h1 h2 h3 h4 => ?_, fun j p h => ?_, exs_set S.len S.exs hx, dds_set S.dds hd⟩
  · by_cases e : i = j
    · subst e
      by_cases hl : i < ρ.length
      · rw [List.getElem?_set_self hl] at h; exact absurd (Option.some.inj h) (hs ps)
      · rw [List.getElem?_eq_none (by rw [List.length_set]; omega)] at h; cases h
    · rw [List.getElem?_set_ne e] at h
      obtain ⟨a, vs, e1, e2, e3, e5, e4⟩ := S.own j ps h
      exact ⟨a, vs, by rw [List.getElem?_set_ne e]; exact e1, e2, e3, e5, e4.less less⟩
  · have go : ∀ {j : Nat} {ps : List PV}, (ρ.set i s)[j]? = some (.own ps) → i ≠ j := fun {j ps} h e => by
      subst e
      by_cases hl : i < ρ.length
      · rw [List.getElem?_set_self hl] at h; exact absurd (Option.some.inj h) (hs ps)
      · rw [List.getElem?_eq_none (by rw [List.length_set]; omega)] at h; cases h
    have e1 := go h1
    have e2 := go h2
    rw [List.getElem?_set_ne e1] at h1 h3
    rw [List.getElem?_set_ne e2] at h2 h4
    exact S.dis j k a ps qs h1 h2 h3 h4
  · by_cases e : i = j
    · subst e
      by_cases hl : i < ρ.length
      · rw [List.getElem?_set_self hl] at h
        obtain ⟨w, e1, e2⟩ := hv p (Option.some.inj h)
        exact ⟨w, by rw [List.getElem?_set_self (by rw [S.len]; exact hl), e1], e2.less less⟩
      · rw [List.getElem?_eq_none (by rw [List.length_set]; omega)] at h; cases h
    · rw [List.getElem?_set_ne e] at h
      obtain ⟨w, e1, e2⟩ := S.val j p h
      exact ⟨w, by rw [List.getElem?_set_ne e]; exact e1, e2.less less⟩
/-- a slot is set to a list that is new -/
theorem StR.setOwn (S : StR K H0 O0 H σ ρ) (s : Same H H') {i : Nat} {a : Addr} {vs : List V} {ps : List PV} (hn : H a = none) (ha : H' a = some (.lst vs)) (hr : Reps K H' (fun b => OO O0 σ ρ b ∨ b = a) vs ps) :
    StR K H0 O0 H' (σ.set i (some (.ref a))) (ρ.set i (.own ps)) := by
  have less : ∀ b, OO O0 (σ.set i (some (.ref a))) (ρ.set i (.own ps)) b → OO O0 σ ρ b ∨ b = a := fun b h => by
    rcases h with h | ⟨j, qs, h1, h2⟩
    · exact .inl (.inl h)
    · by_cases e : i = j
      · subst e
        by_cases hl : i < σ.length
        · rw [List.getElem?_set_self hl] at h2; cases h2; exact .inr rfl
        · rw [List.getElem?_eq_none (by rw [List.length_set]; omega)] at h2; cases h2
      · rw [List.getElem?_set_ne e] at h1 h2
        exact .inl (.inr ⟨j, qs, h1, h2⟩)
  have h0 : H0 a = none := S.same.free hn
  have nota : ∀ {b : Addr} {o : HO}, H b = some o → b ≠ a := fun hb z => by rw [z, hn] at hb; cases hb
  have keep : ∀ {v : V} {p : PV}, Rep K H (OO O0 σ ρ) v p → Rep K H' (OO O0 (σ.set i (some (.ref a))) (ρ.set i (.own ps))) v p := fun r => r.mono fun b o hb nb => ⟨s b o hb, fun z => (less b z).elim nb (nota hb)⟩
  have keeps : ∀ {v : List V} {p : List PV}, Reps K H (OO O0 σ ρ) v p → Reps K H' (OO O0 (σ.set i (some (.ref a))) (ρ.set i (.own ps))) v p := fun r => r.mono fun b o hb nb => ⟨s b o hb, fun z => (less b z).elim nb (nota hb)⟩
  refine ⟨by rw [List.length_set, List.length_set, S.len], S.same.trans s, fun a h z => S.all0 a h (s.free z), fun j qs h => ?_, fun j k b qs rs h1 h2 h3 h4 => ?_, fun j p h => ?_, exs_set S.len S.exs fun _ z => (nomatch z), dds_set (dds_later S.dds fun _ _ e => s _ _ e) fun _ _ z => (nomatch z)⟩
  · by_cases e : i = j
    · subst e
      by_cases hl : i < ρ.length
      · rw [List.getElem?_set_self hl] at h; cases h
        exact ⟨a, vs, by rw [List.getElem?_set_self (by rw [S.len]; exact hl)], ha, h0, fun z => S.all0 a z hn, hr.less less⟩
      · rw [List.getElem?_eq_none (by rw [List.length_set]; omega)] at h; cases h
    · rw [List.getElem?_set_ne e] at h
      obtain ⟨b, ws, e1, e2, e3, e5, e4⟩ := S.own j qs h
      exact ⟨b, ws, by rw [List.getElem?_set_ne e]; exact e1, s _ _ e2, e3, e5, keeps e4⟩
  · have other : ∀ {j : Nat} {qs : List PV} {b : Addr}, i ≠ j → (ρ.set i (.own ps))[j]? = some (.own qs) → (σ.set i (some (.ref a)))[j]? = some (some (.ref b)) → b ≠ a := fun {j qs b} e h1 h3 z => by
      rw [List.getElem?_set_ne e] at h1 h3
      obtain ⟨c, ws, e1, e2, _⟩ := S.own j qs h1
      rw [h3] at e1; cases e1
      exact nota e2 z
    have self : ∀ {j : Nat} {b : Addr}, i = j → (σ.set i (some (.ref a)))[j]? = some (some (.ref b)) → b = a := fun {j b} e h3 => by
      subst e
      by_cases hl : i < σ.length
      · rw [List.getElem?_set_self hl] at h3; cases h3; rfl
      · rw [List.getElem?_eq_none (by rw [List.length_set]; omega)] at h3; cases h3
    by_cases e1 : i = j
    · by_cases e2 : i = k
      · exact e1.symm.trans e2
      · exact absurd (self e1 h3) (other e2 h2 h4)
    · by_cases e2 : i = k
      · exact absurd (self e2 h4) (other e1 h1 h3)
      · rw [List.getElem?_set_ne e1] at h1 h3
        rw [List.getElem?_set_ne e2] at h2 h4
        exact S.dis j k b qs rs h1 h2 h3 h4
  · by_cases e : i = j
    · subst e
      by_cases hl : i < ρ.length
      · rw [List.getElem?_set_self hl] at h; cases h
      · rw [List.getElem?_eq_none (by rw [List.length_set]; omega)] at h; cases h
    · rw [List.getElem?_set_ne e] at h
      obtain ⟨w, e1, e2⟩ := S.val j p h
      exact ⟨w, by rw [List.getElem?_set_ne e]; exact e1, keep e2⟩
/-- an owned list is changed -/
theorem StR.write (S : StR K H0 O0 H σ ρ) {i : Nat} {a : Addr} {ps qs : List PV} {ws : List V} (h1 : ρ[i]? = some (.own ps)) (h2 : σ[i]? = some (some (.ref a))) (hr : Reps K H (OO O0 σ ρ) ws qs) :
    StR K H0 O0 (upd H a (.lst ws)) σ (ρ.set i (.own qs)) := by
  have hi : i < ρ.length := (List.getElem?_eq_some_iff.mp h1).1
  have oeq : ∀ b, OO O0 σ (ρ.set i (.own qs)) b ↔ OO O0 σ ρ b := fun b => by
    constructor
    · rintro (h | ⟨j, rs, e1, e2⟩)
      · exact .inl h
      · by_cases e : i = j
        · subst e; exact .inr ⟨i, ps, h1, e2⟩
        · rw [List.getElem?_set_ne e] at e1; exact .inr ⟨j, rs, e1, e2⟩
    · rintro (h | ⟨j, rs, e1, e2⟩)
      · exact .inl h
      · by_cases e : i = j
        · subst e; exact .inr ⟨i, qs, List.getElem?_set_self hi, e2⟩
        · exact .inr ⟨j, rs, by rw [List.getElem?_set_ne e]; exact e1, e2⟩
  have hO : OO O0 σ ρ a := .inr ⟨i, ps, h1, h2⟩
  have hk : ∀ b o, H b = some o → ¬ OO O0 σ ρ b → upd H a (.lst ws) b = some o ∧ ¬ OO O0 σ (ρ.set i (.own qs)) b := fun b o hb nb =>
    ⟨by rw [upd_ne (fun z => nb (by rw [z]; exact hO))]; exact hb, fun z => nb ((oeq b).mp z)⟩
  obtain ⟨a', vs, e1, e2, e3, e5, _⟩ := S.own i ps h1
  rw [h2] at e1; cases e1
  refine ⟨by rw [List.length_set, S.len], fun b o hb => ?_, fun b hb => ?_, fun j rs h => ?_, fun j k b rs ts g1 g2 g3 g4 => ?_, fun j p h => ?_, exs_setR S.exs fun _ z => (nomatch z), dds_setR (dds_later S.dds fun b l e => by rw [upd_ne (fun z => by rw [z, e2] at e; cases e)]; exact e) fun _ _ z => (nomatch z)⟩
  · rw [upd_ne (fun z => by rw [z, e3] at hb; cases hb)]; exact S.same b o hb
  · by_cases e : b = a
    · rw [e, upd_same]; exact fun z => nomatch z
    · rw [upd_ne e]; exact S.all0 b hb
  · by_cases e : i = j
    · subst e
      rw [List.getElem?_set_self hi] at h; cases h
      exact ⟨a, ws, h2, upd_same, e3, e5, hr.mono hk⟩
    · rw [List.getElem?_set_ne e] at h
      obtain ⟨b, us, f1, f2, f3, f5, f4⟩ := S.own j rs h
      exact ⟨b, us, f1, by rw [upd_ne (fun z => e (S.dis i j a ps rs h1 h h2 (by rw [← z]; exact f1)))]; exact f2, f3, f5, f4.mono hk⟩
  · have go : ∀ {j : Nat} {rs : List PV}, (ρ.set i (.own qs))[j]? = some (.own rs) → ∃ rs', ρ[j]? = some (.own rs') := fun {j rs} h => by
      by_cases e : i = j
      · subst e; exact ⟨_, h1⟩
      · rw [List.getElem?_set_ne e] at h; exact ⟨_, h⟩
    obtain ⟨_, f1⟩ := go g1
    obtain ⟨_, f2⟩ := go g2
    exact S.dis j k b _ _ f1 f2 g3 g4
  · by_cases e : i = j
    · subst e
      rw [List.getElem?_set_self hi] at h; cases h
    · rw [List.getElem?_set_ne e] at h
      obtain ⟨w, f1, f2⟩ := S.val j p h
      exact ⟨w, f1, f2.mono hk⟩
/-- an owned list is let go: it is shared from now on -/
theorem StR.freeze (S : StR K H0 O0 H σ ρ) {i : Nat} {ps : List PV} (h1 : ρ[i]? = some (.own ps)) : StR K H0 O0 H σ (ρ.set i (.val (.lst ps))) := by
  have hi : i < ρ.length := (List.getElem?_eq_some_iff.mp h1).1
  obtain ⟨a, vs, e1, e2, e3, e5, e4⟩ := S.own i ps h1
  have hs : σ.set i (some (.ref a)) = σ := by
    refine List.ext_getElem? fun j => ?_
    by_cases e : i = j
    · subst e; rw [List.getElem?_set_self (by rw [S.len]; exact hi), e1]
    · rw [List.getElem?_set_ne e]
  have less : ∀ b, OO O0 σ (ρ.set i (.val (.lst ps))) b → OO O0 σ ρ b := fun b h => by
    rw [← hs] at h
    exact OO.set_val (fun _ z => Slot.noConfusion z) h
  have na : ¬ OO O0 σ (ρ.set i (.val (.lst ps))) a := by
    rintro (h | ⟨j, rs, f1, f2⟩)
    · exact e5 h
    · by_cases e : i = j
      · subst e
        rw [List.getElem?_set_self hi] at f1; cases f1
      · rw [List.getElem?_set_ne e] at f1
        exact e (S.dis i j a ps rs h1 f1 e1 f2)
  refine ⟨by rw [List.length_set, S.len], S.same, S.all0, fun j rs h => ?_, fun j k b rs ts g1 g2 g3 g4 => ?_, fun j p h => ?_, exs_setR S.exs fun _ z => (nomatch z), dds_setR S.dds fun _ _ z => (nomatch z)⟩
  · by_cases e : i = j
    · subst e
      rw [List.getElem?_set_self hi] at h; cases h
    · rw [List.getElem?_set_ne e] at h
      obtain ⟨b, us, f1, f2, f3, f5, f4⟩ := S.own j rs h
      exact ⟨b, us, f1, f2, f3, f5, f4.less less⟩
  · have go : ∀ {j : Nat} {rs : List PV}, (ρ.set i (.val (.lst ps)))[j]? = some (.own rs) → ρ[j]? = some (.own rs) := fun {j rs} h => by
      by_cases e : i = j
      · subst e; rw [List.getElem?_set_self hi] at h; cases h
      · rw [List.getElem?_set_ne e] at h; exact h
    exact S.dis j k b _ _ (go g1) (go g2) g3 g4
  · by_cases e : i = j
    · subst e
      rw [List.getElem?_set_self hi] at h; cases h
      exact ⟨.ref a, e1, .lst e2 na (e4.less less)⟩
    · rw [List.getElem?_set_ne e] at h
      obtain ⟨w, f1, f2⟩ := S.val j p h
      exact ⟨w, f1, f2.less less⟩
end
end PL
set_option Elab.async false
set_option linter.all false
set_option maxRecDepth 100000
set_option autoImplicit false
namespace PL
open PySem PySem.Spec L2
open PyProof.Rows hiding St
/-- how a result stands: s: apart from the owned lists; t: it may be an owned list itself; f: a list that is new; w: apart from the outer addresses alone -/
inductive Md where
  | s | t | f | w
def RepM (K : PySem.W.Frag) (O0 : Addr → Prop) (σ : St) (ρ : Rho) : Md → Hp → Hp → V → PV → Prop
  | .s, _, H', v, p => Rep K H' (OO O0 σ ρ) v p
  | .t, _, H', v, p => Rep K H' (OO O0 σ ρ) v p ∨ ∃ a vs ps, v = .ref a ∧ p = .lst ps ∧ H' a = some (.lst vs) ∧ Reps K H' (OO O0 σ ρ) vs ps
  | .f, H, H', v, p => (v = .non ∧ p = .non) ∨ ∃ a vs ps, v = .ref a ∧ p = .lst ps ∧ H a = none ∧ H' a = some (.lst vs) ∧ Reps K H' (fun b => OO O0 σ ρ b ∨ b = a) vs ps
  | .w, _, H', v, p => Rep K H' O0 v p
section
variable {K : PySem.W.Frag} {H0 H H1 H2 : Hp} {O0 : Addr → Prop} {σ : St} {ρ : Rho} {v : V} {p : PV} {m : Md}
theorem RepM.step (r : RepM K O0 σ ρ m H H1 v p) (s : Same H1 H2) : RepM K O0 σ ρ m H H2 v p := by
  cases m with
  | s => exact Rep.same s r
  | t =>
    rcases r with r | ⟨a, vs, ps, e1, e2, e3, e4⟩
    · exact .inl (r.same s)
    · exact .inr ⟨a, vs, ps, e1, e2, s _ _ e3, e4.same s⟩
  | f =>
    rcases r with z | ⟨a, vs, ps, e1, e2, e3, e4, e5⟩
    · exact .inl z
    · exact .inr ⟨a, vs, ps, e1, e2, e3, s _ _ e4, e5.same s⟩
  | w => exact Rep.same s r
theorem RepM.back (s : Same H H1) (r : RepM K O0 σ ρ m H1 H2 v p) : RepM K O0 σ ρ m H H2 v p := by
  cases m with
  | s => exact r
  | t => exact r
  | f =>
    rcases r with z | ⟨a, vs, ps, e1, e2, e3, e4, e5⟩
    · exact .inl z
    · exact .inr ⟨a, vs, ps, e1, e2, s.free e3, e4, e5⟩
  | w => exact r
theorem RepM.f_s (S : StR K H0 O0 H σ ρ) (r : RepM K O0 σ ρ .f H H1 v p) : RepM K O0 σ ρ .s H H1 v p := by
  rcases r with ⟨rfl, rfl⟩ | ⟨a, vs, ps, rfl, rfl, e3, e4, e5⟩
  · exact .non
  · exact .lst e4 (fun z => S.there z e3) (e5.less fun _ z => .inl z)
theorem RepM.s_w (r : RepM K O0 σ ρ .s H H1 v p) : RepM K O0 σ ρ .w H H1 v p := Rep.less (fun _ z => .inl z) r
theorem RepM.s_t (r : RepM K O0 σ ρ .s H H1 v p) : RepM K O0 σ ρ .t H H1 v p := .inl r
end
/-- what an expression's end must bring -/
def Got (K : PySem.W.Frag) (mg : Str → Option Value) (W : WX) (O0 : Addr → Prop) (σ : St) (ρ : Rho) (m : Md) (H : Hp) (Q : VK) : R PV → Prop
  | .ok p => ∀ v H', Same H H' → RepM K O0 σ ρ m H H' v p → Q v H'
  | .exc c => ∀ C H', Same H H' → mg c = some (.ref C) → W (.ref C) none σ H'
  | .stuck => False
def GotT (mg : Str → Option Value) (W : WX) (σ : St) (H : Hp) (Q : Bool → Hp → Prop) : R Bool → Prop
  | .ok b => ∀ H', Same H H' → Q b H'
  | .exc c => ∀ C H', Same H H' → mg c = some (.ref C) → W (.ref C) none σ H'
  | .stuck => False
def GotA (K : PySem.W.Frag) (mg : Str → Option Value) (W : WX) (O0 : Addr → Prop) (σ : St) (ρ : Rho) (m : Md) (H : Hp) (Q : List V → Hp → Prop) : R (List PV) → Prop
  | .ok ps => ∀ vs H', Same H H' → Paired (RepM K O0 σ ρ m H H') vs ps → Q vs H'
  | .exc c => ∀ C H', Same H H' → mg c = some (.ref C) → W (.ref C) none σ H'
  | .stuck => False
def tE (K : PySem.W.Frag) (mg : Str → Option Value) (W : WX) (m : Md) (f : Rho → R PV) : TE := fun σ H Q =>
  ∃ H0 O0 ρ, StR K H0 O0 H σ ρ ∧ Got K mg W O0 σ ρ m H Q (f ρ)
def tT (K : PySem.W.Frag) (mg : Str → Option Value) (W : WX) (f : Rho → R Bool) : TT := fun σ H Q =>
  ∃ H0 O0 ρ, StR K H0 O0 H σ ρ ∧ GotT mg W σ H Q (f ρ)
def tA (K : PySem.W.Frag) (mg : Str → Option Value) (W : WX) (m : Md) (f : Rho → R (List PV)) : TA := fun σ H Q =>
  ∃ H0 O0 ρ, StR K H0 O0 H σ ρ ∧ GotA K mg W O0 σ ρ m H Q (f ρ)
abbrev EJ (X : Cx) (W : WX) (m : Md) (e : Expr) (f : Rho → R PV) : Prop := PE X e (tE X.K X.mg W m f)
abbrev TJ (X : Cx) (W : WX) (e : Expr) (f : Rho → R Bool) : Prop := PT X e (tT X.K X.mg W f)
abbrev AJ (X : Cx) (W : WX) (m : Md) (es : List Expr) (f : Rho → R (List PV)) : Prop := PA X es (tA X.K X.mg W m f)
section
variable {X : Cx} {e a b : Expr} {pos : Pos}
theorem pe_imp {t t' : TE} (h : PE X e t) (q : ∀ σ H Q, t' σ H Q → t σ H Q) : PE X e t' := ⟨fun pins s σ H Q I hw => h.run pins s σ H Q I (q σ H Q hw)⟩
theorem pt_imp {t t' : TT} (h : PT X e t) (q : ∀ σ H Q, t' σ H Q → t σ H Q) : PT X e t' := ⟨fun pins s σ H Q I hw => h.run pins s σ H Q I (q σ H Q hw)⟩
theorem pw_imp {t t' : TT} (h : PW X e t) (q : ∀ σ H Q, t' σ H Q → t σ H Q) : PW X e t' := ⟨fun wh pins s σ H Q I hw => h.run wh pins s σ H Q I (q σ H Q hw)⟩
theorem pa_imp {es : List Expr} {t t' : TA} (h : PA X es t) (q : ∀ σ H Q, t' σ H Q → t σ H Q) : PA X es t' := ⟨fun pos pins s σ H Q I hw => h.run pos pins s σ H Q I (q σ H Q hw)⟩
end
section
variable {K : PySem.W.Frag} {mg : Str → Option Value} {W : WX} {H0 H H1 H2 : Hp} {O0 : Addr → Prop} {σ : St} {ρ : Rho} {m m1 m2 : Md}
/-- from a later heap -/
theorem Got.later {x : R PV} {Q : VK} (s : Same H H1) (h : Got K mg W O0 σ ρ m H Q x) : Got K mg W O0 σ ρ m H1 Q x := by
  cases x with
  | ok p => exact fun v H' s' r => h v H' (s.trans s') (r.back s)
  | exc c => exact fun C H' s' e => h C H' (s.trans s') e
  | stuck => exact h
theorem GotT.later {x : R Bool} {Q : Bool → Hp → Prop} (s : Same H H1) (h : GotT mg W σ H Q x) : GotT mg W σ H1 Q x := by
  cases x with
  | ok p => exact fun H' s' => h H' (s.trans s')
  | exc c => exact fun C H' s' e => h C H' (s.trans s') e
  | stuck => exact h
end
def eC (p : PV) : Rho → R PV := fun _ => .ok p
def eV (i : Nat) : Rho → R PV := fun ρ => match ρ[i]? with
  | some (.val p) => .ok p
  | _ => .stuck
def eVo (i : Nat) : Rho → R PV := fun ρ => match ρ[i]? with
  | some (.val p) => .ok p
  | some (.own ps) => .ok (.lst ps)
  | _ => .stuck
section
variable {X : Cx} {W : WX} {e a b c : Expr} {pos : Pos} {m m1 m2 m3 : Md} {f g h : Rho → R PV}
theorem e_const {v : V} {p : PV} (hp : PE X e (tC v)) (hr : ∀ K H O, Rep K H O v p) : EJ X W .s e (eC p) := by
  refine pe_imp hp fun σ H Q ⟨H0, O0, ρ, S, G⟩ => ?_
  exact G v H (Same.refl H) (hr _ _ _)
theorem e_int {i : Int} {j : Nat} : EJ X W .s (.Constant (.int i) j pos) (eC (.int i)) := e_const pe_int fun _ _ _ => .int i
theorem e_bl {k : Bool} {j : Nat} : EJ X W .s (.Constant (.bool k) j pos) (eC (.bl k)) := e_const pe_bl fun _ _ _ => .bl k
theorem e_non {j : Nat} : EJ X W .s (.Constant .none j pos) (eC .non) := e_const pe_non fun _ _ _ => .non
theorem e_nonF {j : Nat} : EJ X W .f (.Constant .none j pos) (eC .non) := pe_imp pe_non fun σ H Q ⟨H0, O0, ρ, S, G⟩ => G .non H (Same.refl H) (.inl ⟨rfl, rfl⟩)
theorem e_str {x : Str} {j : Nat} : EJ X W .s (.Constant (.str x) j pos) (eC (.str x)) := e_const pe_str fun _ _ _ => .str x
theorem e_s_t (h : EJ X W .s e f) : EJ X W .t e f := by
  refine pe_imp h fun σ H Q ⟨H0, O0, ρ, S, G⟩ => ⟨H0, O0, ρ, S, ?_⟩
  revert G
  cases f ρ with
  | ok p => exact fun G v H' s r => G v H' s (RepM.s_t (H := H) r)
  | exc c => exact id
  | stuck => exact id
theorem e_f_s (h : EJ X W .f e f) : EJ X W .s e f := by
  refine pe_imp h fun σ H Q ⟨H0, O0, ρ, S, G⟩ => ⟨H0, O0, ρ, S, ?_⟩
  revert G
  cases f ρ with
  | ok p => exact fun G v H' s r => G v H' s (RepM.f_s S r)
  | exc c => exact id
  | stuck => exact id
theorem e_f_t (h : EJ X W .f e f) : EJ X W .t e f := e_s_t (e_f_s h)
theorem eVar_get {K : PySem.W.Frag} {H0 H : Hp} {O0 : Addr → Prop} {σ : St} {ρ : Rho} (S : StR K H0 O0 H σ ρ) {i : Nat} {p : PV} (h : eV i ρ = .ok p) : ∃ v, σ[i]? = some (some v) ∧ Rep K H (OO O0 σ ρ) v p := by
  unfold eV at h
  split at h
  · rename_i q hq
    cases h
    exact S.val i _ hq
  · cases h
theorem e_var {i : Nat} (hp : PE X e (tVar i)) : EJ X W .s e (eV i) := by
  refine pe_imp hp fun σ H Q ⟨H0, O0, ρ, S, G⟩ => ?_
  revert G
  cases hv : eV i ρ with
  | ok p =>
    intro G
    obtain ⟨v, e1, e2⟩ := eVar_get S hv
    exact ⟨v, e1, G v H (Same.refl H) e2⟩
  | exc c => unfold eV at hv; split at hv <;> cases hv
  | stuck => exact False.elim
theorem eVo_get {K : PySem.W.Frag} {H0 H : Hp} {O0 : Addr → Prop} {σ : St} {ρ : Rho} (S : StR K H0 O0 H σ ρ) {i : Nat} {p : PV} (h : eVo i ρ = .ok p) : ∃ v, σ[i]? = some (some v) ∧ RepM K O0 σ ρ .t H H v p ∧ RepM K O0 σ ρ .w H H v p := by
  unfold eVo at h
  split at h
  · rename_i q hq
    cases h
    obtain ⟨v, e1, e2⟩ := S.val i _ hq
    exact ⟨v, e1, .inl e2, RepM.s_w (H := H) e2⟩
  · rename_i ps hq
    cases h
    obtain ⟨a, vs, e1, e2, e3, e5, e4⟩ := S.own i _ hq
    exact ⟨.ref a, e1, .inr ⟨a, vs, _, rfl, rfl, e2, e4⟩, .lst e2 e5 (e4.less fun _ z => .inl z)⟩
  · cases h
theorem eVo_noexc {i : Nat} {ρ : Rho} {c : Str} (h : eVo i ρ = .exc c) : False := by
  unfold eVo at h
  split at h <;> cases h
theorem e_varT {i : Nat} (hp : PE X e (tVar i)) : EJ X W .t e (eVo i) := by
  refine pe_imp hp fun σ H Q ⟨H0, O0, ρ, S, G⟩ => ?_
  revert G
  cases hv : eVo i ρ with
  | ok p =>
    intro G
    obtain ⟨v, e1, e2, _⟩ := eVo_get S hv
    exact ⟨v, e1, G v H (Same.refl H) e2⟩
  | exc c => exact (eVo_noexc hv).elim
  | stuck => exact False.elim
/-- what an operation's end must bring -/
def GotV (K : PySem.W.Frag) (O0 : Addr → Prop) (σ : St) (ρ : Rho) (m : Md) (H H2 : Hp) (Q : VK) : R PV → Prop
  | .ok p => ∀ v H', Same H2 H' → RepM K O0 σ ρ m H H' v p → Q v H'
  | _ => False
def OpS (K : PySem.W.Frag) (r : R2) (m1 m2 m : Md) (g : PV → PV → R PV) : Prop :=
  ∀ {H0 O0 σ ρ H H2 x y p q} {Q : VK}, StR K H0 O0 H σ ρ → Same H H2 → RepM K O0 σ ρ m1 H H2 x p → RepM K O0 σ ρ m2 H H2 y q → GotV K O0 σ ρ m H H2 Q (g p q) → r x y H2 Q
def UnS (K : PySem.W.Frag) (r : V → Hp → VK → Prop) (m1 m : Md) (g : PV → R PV) : Prop :=
  ∀ {H0 O0 σ ρ H H2 x p} {Q : VK}, StR K H0 O0 H σ ρ → Same H H2 → RepM K O0 σ ρ m1 H H2 x p → GotV K O0 σ ρ m H H2 Q (g p) → r x H2 Q
def CallS (K : PySem.W.Frag) (r : List V → Hp → VK → Prop) (m1 m : Md) (g : List PV → R PV) : Prop :=
  ∀ {H0 O0 σ ρ H H2 xs ps} {Q : VK}, StR K H0 O0 H σ ρ → Same H H2 → Paired (RepM K O0 σ ρ m1 H H2) xs ps → GotV K O0 σ ρ m H H2 Q (g ps) → r xs H2 Q
def e2 (g : PV → PV → R PV) (f1 f2 : Rho → R PV) : Rho → R PV := fun ρ => (f1 ρ).bind fun x => (f2 ρ).bind fun y => g x y
def e1 (g : PV → R PV) (f1 : Rho → R PV) : Rho → R PV := fun ρ => (f1 ρ).bind g
theorem Got.v {K : PySem.W.Frag} {mg : Str → Option Value} {O0 : Addr → Prop} {σ : St} {ρ : Rho} {H H2 : Hp} {Q : VK} {x : R PV} (hx : ∀ c, x ≠ .exc c) (s : Same H H2) (G : Got K mg W O0 σ ρ m H Q x) : GotV K O0 σ ρ m H H2 Q x := by
  cases x with
  | ok p => exact fun v H' s' r => G v H' (s.trans s') r
  | exc c => exact absurd rfl (hx c)
  | stuck => exact G
theorem t_op {r : R2} {g : PV → PV → R PV} (hg : ∀ p q c, g p q ≠ .exc c) (ho : OpS X.K r m1 m2 m g) : ∀ σ H Q, tE X.K X.mg W m (e2 g f h) σ H Q → tOp r (tE X.K X.mg W m1 f) (tE X.K X.mg W m2 h) σ H Q := by
  intro σ H Q ⟨H0, O0, ρ, S, G⟩
  refine ⟨H0, O0, ρ, S, ?_⟩
  revert G
  unfold e2
  cases f ρ with
  | stuck => exact False.elim
  | exc c => exact id
  | ok p =>
    intro G x H1 s1 r1
    refine ⟨H0, O0, ρ, S.step s1, ?_⟩
    revert G
    rw [R.bind_ok]
    cases h ρ with
    | stuck => exact False.elim
    | exc c => exact fun G C H' s' => G C H' (s1.trans s')
    | ok q =>
      intro G y H2 s2 r2
      exact ho S (s1.trans s2) (r1.step s2) (r2.back s1) (Got.v (hg p q) (s1.trans s2) G)
theorem e_op {op : Operator} {r : R2} {g : PV → PV → R PV} (hr : OpR X (binaryOp op) r) (hg : ∀ p q c, g p q ≠ .exc c) (ho : OpS X.K r m1 m2 m g) (ha : EJ X W m1 a f) (hb : EJ X W m2 b h) : EJ X W m (.BinOp a op b pos) (e2 g f h) :=
  pe_imp (pe_op hr ha hb) (t_op hg ho)
theorem e_cmp {op : CmpOp} {r : R2} {g : PV → PV → R PV} (hr : OpR X (compareOp op) r) (hg : ∀ p q c, g p q ≠ .exc c) (ho : OpS X.K r m1 m2 m g) (ha : EJ X W m1 a f) (hb : EJ X W m2 b h) (hm : behindInMarks op b = false) : EJ X W m (.Compare a [op] [b] pos) (e2 g f h) :=
  pe_imp (pe_cmpR hr ha hb hm) (t_op hg ho)
theorem e_ix {r : R2} {g : PV → PV → R PV} (hr : IxR X r) (hg : ∀ p q c, g p q ≠ .exc c) (ho : OpS X.K r m1 m2 m g) (ha : EJ X W m1 a f) (hb : EJ X W m2 b h) (hs : PlainIx b) : EJ X W m (.Subscript a b pos) (e2 g f h) :=
  pe_imp (pe_ix hr ha hb hs) (t_op hg ho)
theorem e_un {op : UnaryOp} {r : V → Hp → VK → Prop} {g : PV → R PV} (hr : UnR X (unaryOp op) r) (hg : ∀ p c, g p ≠ .exc c) (ho : UnS X.K r m1 m g) (ha : EJ X W m1 a f) : EJ X W m (.UnaryOp op a pos) (e1 g f) := by
  refine pe_imp (pe_un hr ha) fun σ H Q ⟨H0, O0, ρ, S, G⟩ => ⟨H0, O0, ρ, S, ?_⟩
  revert G
  unfold e1
  cases f ρ with
  | stuck => exact False.elim
  | exc c => exact id
  | ok p => exact fun G x H1 s1 r1 => ho S s1 r1 (Got.v (hg p) s1 G)
def asB : PV → R Bool
  | .bl b => .ok b
  | _ => .stuck
def tB1 (f : Rho → R PV) : Rho → R Bool := fun ρ => (f ρ).bind asB
theorem GotB {K : PySem.W.Frag} {mg : Str → Option Value} {O0 : Addr → Prop} {σ : St} {ρ : Rho} {H : Hp} {Q : Bool → Hp → Prop} {x : R PV} (G : GotT mg W σ H Q (x.bind asB)) : Got K mg W O0 σ ρ .s H (fun v H' => ∃ k, v = .bl k ∧ Q k H') x := by
  revert G
  cases x with
  | stuck => exact False.elim
  | exc c => exact id
  | ok p =>
    cases p with
    | bl b => exact fun G v H' s r => by cases r; exact ⟨b, rfl, G H' s⟩
    | _ => exact False.elim
theorem t_cmp {op : CmpOp} {r : R2} {g : PV → PV → R PV} (hr : OpR X (compareOp op) r) (hg : ∀ p q c, g p q ≠ .exc c) (ho : OpS X.K r m1 m2 .s g) (ha : EJ X W m1 a f) (hb : EJ X W m2 b h) (hm : behindInMarks op b = false) : TJ X W (.Compare a [op] [b] pos) (tB1 (e2 g f h)) := by
  refine pt_imp (pt_cmpR hr ha hb hm) fun σ H Q ⟨H0, O0, ρ, S, G⟩ => ?_
  exact t_op hg ho σ H _ ⟨H0, O0, ρ, S, GotB G⟩
/-- an expression of any other kind, worth a truth value -/
theorem t_val (ha : EJ X W .s e f) (he : ∀ whole, isTrue e X.env whole = (do let v ← whole; standAt e.pos; holding [v] (truthy v)) := by intro _; rfl) : TJ X W e (tB1 f) := by
  refine pt_imp (pt_val ha he) fun σ H Q ⟨H0, O0, ρ, S, G⟩ => ⟨H0, O0, ρ, S, GotB G⟩
variable {fT gT hT : Rho → R Bool}
def tNt (f : Rho → R Bool) : Rho → R Bool := fun ρ => (f ρ).bind fun b => .ok (!b)
def tAn (f g : Rho → R Bool) : Rho → R Bool := fun ρ => (f ρ).bind fun b => if b = true then g ρ else .ok false
def tOr' (f g : Rho → R Bool) : Rho → R Bool := fun ρ => (f ρ).bind fun b => if b = true then .ok true else g ρ
theorem t_not (ha : TJ X W a fT) : TJ X W (.UnaryOp .Not a pos) (tNt fT) := by
  refine pt_imp (pt_not ha) fun σ H Q ⟨H0, O0, ρ, S, G⟩ => ⟨H0, O0, ρ, S, ?_⟩
  revert G
  unfold tNt
  cases fT ρ with
  | stuck => exact False.elim
  | exc c => exact id
  | ok b => exact fun G H' s => G H' s
abbrev WJ (X : Cx) (W : WX) (e : Expr) (f : Rho → R Bool) : Prop := PW X e (tT X.K X.mg W f)
theorem t_w (h : WJ X W e fT) : TJ X W e fT := PW.pt h
variable {rest : List Expr}
theorem w_and1 (ha : TJ X W a fT) : WJ X W (.BoolOp .And [a] pos) fT := pw_and1 ha
theorem w_or1 (ha : TJ X W a fT) : WJ X W (.BoolOp .Or [a] pos) fT := pw_or1 ha
theorem w_and (ha : TJ X W a fT) (hb : WJ X W (.BoolOp .And (b :: rest) pos) gT) : WJ X W (.BoolOp .And (a :: b :: rest) pos) (tAn fT gT) := by
  refine pw_imp (pw_and ha hb) fun σ H Q ⟨H0, O0, ρ, S, G⟩ => ⟨H0, O0, ρ, S, ?_⟩
  revert G
  unfold tAn
  cases fT ρ with
  | stuck => exact False.elim
  | exc c => exact id
  | ok k =>
    intro G H1 s1
    cases k with
    | true => rw [if_pos rfl]; exact ⟨H0, O0, ρ, S.step s1, GotT.later s1 G⟩
    | false => rw [if_neg Bool.false_ne_true]; exact G H1 s1
theorem w_or (ha : TJ X W a fT) (hb : WJ X W (.BoolOp .Or (b :: rest) pos) gT) : WJ X W (.BoolOp .Or (a :: b :: rest) pos) (tOr' fT gT) := by
  refine pw_imp (pw_or ha hb) fun σ H Q ⟨H0, O0, ρ, S, G⟩ => ⟨H0, O0, ρ, S, ?_⟩
  revert G
  unfold tOr'
  cases fT ρ with
  | stuck => exact False.elim
  | exc c => exact id
  | ok k =>
    intro G H1 s1
    cases k with
    | false => rw [if_neg Bool.false_ne_true]; exact ⟨H0, O0, ρ, S.step s1, GotT.later s1 G⟩
    | true => rw [if_pos rfl]; exact G H1 s1
/-- and, or, not as values -/
def eAn (f g : Rho → R PV) : Rho → R PV := fun ρ => (f ρ).bind fun p => (asB p).bind fun b => if b = true then g ρ else .ok (.bl false)
def eOr (f g : Rho → R PV) : Rho → R PV := fun ρ => (f ρ).bind fun p => (asB p).bind fun b => if b = true then .ok (.bl true) else g ρ
def notP : PV → R PV
  | .bl b => .ok (.bl (!b))
  | _ => .stuck
theorem e_one {op : BoolOp} (ha : EJ X W m a f) : EJ X W m (.BoolOp op [a] pos) f := pe_one ha
theorem e_and (ha : EJ X W .s a f) (hb : EJ X W .s (.BoolOp .And (b :: rest) pos) g) : EJ X W .s (.BoolOp .And (a :: b :: rest) pos) (eAn f g) := by
  refine pe_imp (pe_and ha hb) fun σ H Q ⟨H0, O0, ρ, S, G⟩ => ⟨H0, O0, ρ, S, ?_⟩
  revert G
  unfold eAn
  cases f ρ with
  | stuck => exact False.elim
  | exc c => exact id
  | ok p =>
    cases p with
    | bl k =>
      intro G v H1 s1 r1
      cases r1
      refine ⟨k, rfl, ?_⟩
      cases k with
      | true => rw [if_pos rfl]; exact ⟨H0, O0, ρ, S.step s1, Got.later s1 G⟩
      | false => rw [if_neg Bool.false_ne_true]; exact G _ H1 s1 (.bl false)
    | _ => exact False.elim
theorem e_or (ha : EJ X W .s a f) (hb : EJ X W .s (.BoolOp .Or (b :: rest) pos) g) : EJ X W .s (.BoolOp .Or (a :: b :: rest) pos) (eOr f g) := by
  refine pe_imp (pe_or ha hb) fun σ H Q ⟨H0, O0, ρ, S, G⟩ => ⟨H0, O0, ρ, S, ?_⟩
  revert G
  unfold eOr
  cases f ρ with
  | stuck => exact False.elim
  | exc c => exact id
  | ok p =>
    cases p with
    | bl k =>
      intro G v H1 s1 r1
      cases r1
      refine ⟨k, rfl, ?_⟩
      cases k with
      | false => rw [if_neg Bool.false_ne_true]; exact ⟨H0, O0, ρ, S.step s1, Got.later s1 G⟩
      | true => rw [if_pos rfl]; exact G _ H1 s1 (.bl true)
    | _ => exact False.elim
theorem e_not (ha : EJ X W .s a f) : EJ X W .s (.UnaryOp .Not a pos) (e1 notP f) := by
  refine pe_imp (pe_not ha) fun σ H Q ⟨H0, O0, ρ, S, G⟩ => ⟨H0, O0, ρ, S, ?_⟩
  revert G
  unfold e1
  cases f ρ with
  | stuck => exact False.elim
  | exc c => exact id
  | ok p =>
    cases p with
    | bl k => exact fun G v H1 s1 r1 => by cases r1; exact ⟨k, rfl, G _ H1 s1 (.bl _)⟩
    | _ => exact False.elim
def eIf (t : Rho → R Bool) (f g : Rho → R PV) : Rho → R PV := fun ρ => (t ρ).bind fun b => if b = true then f ρ else g ρ
def aNil : Rho → R (List PV) := fun _ => .ok []
def aCons (f : Rho → R PV) (g : Rho → R (List PV)) : Rho → R (List PV) := fun ρ => (f ρ).bind fun p => (g ρ).bind fun ps => .ok (p :: ps)
variable {es : List Expr} {fA : Rho → R (List PV)}
theorem a_nil : AJ X W m [] aNil := by
  refine pa_imp pa_nil fun σ H Q ⟨H0, O0, ρ, S, G⟩ => ?_
  exact G [] H (Same.refl H) .nil
theorem a_cons (ha : EJ X W m e f) (hr : AJ X W m es fA) (hs : starEach (e :: es) X.env = (false, eval e X.env) :: starEach es X.env := by rfl) : AJ X W m (e :: es) (aCons f fA) := by
  refine pa_imp (pa_cons ha hr hs) fun σ H Q ⟨H0, O0, ρ, S, G⟩ => ⟨H0, O0, ρ, S, ?_⟩
  revert G
  unfold aCons
  cases f ρ with
  | stuck => exact False.elim
  | exc c => exact id
  | ok p =>
    intro G v H1 s1 r1
    refine ⟨H0, O0, ρ, S.step s1, ?_⟩
    revert G
    rw [R.bind_ok]
    cases fA ρ with
    | stuck => exact False.elim
    | exc c => exact fun G C H' s' => G C H' (s1.trans s')
    | ok ps =>
      intro G vs H2 s2 r2
      refine G (v :: vs) H2 (s1.trans s2) (.cons (r1.step s2) ?_)
      exact Paired.mapP r2 fun _ _ z => z.back s1
theorem reps_of {K : PySem.W.Frag} {O0 : Addr → Prop} {σ : St} {ρ : Rho} {H H' : Hp} : ∀ {vs : List V} {ps : List PV}, Paired (RepM K O0 σ ρ .s H H') vs ps → Reps K H' (OO O0 σ ρ) vs ps
  | _, _, .nil => .nil
  | _, _, .cons h r => .cons h (reps_of r)
theorem same_new {H : Hp} {p : Addr} {o : HO} (h : H p = none) : Same H (upd H p o) := fun b x z => by
  rw [upd_ne (ne_of_none z h)]; exact z
def tupP (ps : List PV) : R PV := if ps.length ≤ sizeLine then .ok (.tup ps) else .stuck
def lstP (ps : List PV) : R PV := if ps.length ≤ sizeLine then .ok (.lst ps) else .stuck
def eD (g : List PV → R PV) (f : Rho → R (List PV)) : Rho → R PV := fun ρ => (f ρ).bind g
theorem new_tup {K : PySem.W.Frag} {H0 H H1 : Hp} {O0 : Addr → Prop} {σ : St} {ρ : Rho} (S : StR K H0 O0 H1 σ ρ) {vs : List V} {ps : List PV} (r : Reps K H1 (OO O0 σ ρ) vs ps) {p : Addr} (hp : H1 p = none) : Rep K (upd H1 p (.tup vs)) (OO O0 σ ρ) (.ref p) (.tup ps) :=
  .tup (.inl ⟨upd_same, fun z => S.there z hp⟩) (r.same (same_new hp))
theorem new_lst {K : PySem.W.Frag} {H0 H H1 : Hp} {O0 : Addr → Prop} {σ : St} {ρ : Rho} (s : Same H H1) {vs : List V} {ps : List PV} (r : Reps K H1 (OO O0 σ ρ) vs ps) {p : Addr} (hp : H1 p = none) : RepM K O0 σ ρ .f H (upd H1 p (.lst vs)) (.ref p) (.lst ps) :=
  .inr ⟨p, vs, ps, rfl, rfl, s.free hp, upd_same, r.mono fun b o hb nb => ⟨same_new hp b o hb, fun z => z.elim nb fun z => by rw [z, hp] at hb; cases hb⟩⟩
theorem e_tup {k : Nat} (h : AJ X W .s es fA) : EJ X W .s (.Tuple es k pos) (eD tupP fA) := by
  refine pe_imp (pe_tup h) fun σ H Q ⟨H0, O0, ρ, S, G⟩ => ⟨H0, O0, ρ, S, ?_⟩
  revert G
  unfold eD
  cases fA ρ with
  | stuck => exact False.elim
  | exc c => exact id
  | ok ps =>
    intro G vs H1 s1 r1
    have rr := reps_of r1
    revert G
    rw [R.bind_ok]
    unfold tupP
    split
    · rename_i hz
      exact fun G => ⟨by rw [rr.length]; exact hz, fun p hp => G _ _ (s1.trans (same_new hp)) (new_tup (H := H) (S.step s1) rr hp)⟩
    · exact False.elim
theorem e_lst (h : AJ X W .s es fA) : EJ X W .f (.List es pos) (eD lstP fA) := by
  refine pe_imp (pe_lst h) fun σ H Q ⟨H0, O0, ρ, S, G⟩ => ⟨H0, O0, ρ, S, ?_⟩
  revert G
  unfold eD
  cases fA ρ with
  | stuck => exact False.elim
  | exc c => exact id
  | ok ps =>
    intro G vs H1 s1 r1
    have rr := reps_of r1
    revert G
    rw [R.bind_ok]
    unfold lstP
    split
    · rename_i hz
      exact fun G => ⟨by rw [rr.length]; exact hz, fun p hp => G _ _ (s1.trans (same_new hp)) (new_lst (H0 := H0) s1 rr hp)⟩
    · exact False.elim
theorem e_callB {x : Str} {p : Pos} {id : String} {r : List V → Hp → VK → Prop} {g' : List PV → R PV} (hc : CallR X (.builtin id) r) (hgn : ∀ ps c, g' ps ≠ .exc c) (ho : CallS X.K r m1 m g') (hg : Gl X x) (hm : X.mg x = none) (hv : bootBuiltins x = some (.builtin id)) (ha : AJ X W m1 (e :: es) fA) (hn : x ≠ "__name__" := by decide) (hdb : (x == ("__debug__" : Str)) = false := by decide)
    (he : starEach (e :: es) X.env = (false, eval e X.env) :: starEach es X.env := by rfl) (hpl : (backTo pos (starEach es X.env)).any (·.1) = false := by rfl) : EJ X W m (.Call (.Name x p) (e :: es) [] pos) (eD g' fA) := by
  refine pe_imp (pe_callB hc hg hm hv ha hn hdb he hpl) fun σ H Q ⟨H0, O0, ρ, S, G⟩ => ⟨H0, O0, ρ, S, ?_⟩
  revert G
  unfold eD
  cases fA ρ with
  | stuck => exact False.elim
  | exc c => exact fun G => G
  | ok ps => exact fun G vs H1 s1 r1 => ho S s1 r1 (Got.v (hgn ps) s1 G)
theorem e_callTy {x : Str} {p : Pos} {T : String} {r : List V → Hp → VK → Prop} {g' : List PV → R PV} (hc : CallR X (.type T) r) (hgn : ∀ ps c, g' ps ≠ .exc c) (ho : CallS X.K r m1 m g') (hg : Gl X x) (hm : X.mg x = none) (hv : bootBuiltins x = some (.type T)) (ha : AJ X W m1 (e :: es) fA) (hn : x ≠ "__name__" := by decide) (hdb : (x == ("__debug__" : Str)) = false := by decide)
    (he : starEach (e :: es) X.env = (false, eval e X.env) :: starEach es X.env := by rfl) (hpl : (backTo pos (starEach es X.env)).any (·.1) = false := by rfl) : EJ X W m (.Call (.Name x p) (e :: es) [] pos) (eD g' fA) := by
  refine pe_imp (pe_callTy hc hg hm hv ha hn hdb he hpl) fun σ H Q ⟨H0, O0, ρ, S, G⟩ => ⟨H0, O0, ρ, S, ?_⟩
  revert G
  unfold eD
  cases fA ρ with
  | stuck => exact False.elim
  | exc c => exact fun G => G
  | ok ps => exact fun G vs H1 s1 r1 => ho S s1 r1 (Got.v (hgn ps) s1 G)
def RepR (K : PySem.W.Frag) (O : Addr → Prop) : Bool → Hp → Hp → V → PV → Prop
  | false, _, H', v, p => Rep K H' O v p
  | true, H, H', v, p => (v = .non ∧ p = .non) ∨ ∃ a vs ps, v = .ref a ∧ p = .lst ps ∧ H a = none ∧ H' a = some (.lst vs) ∧ Reps K H' (fun b => O b ∨ b = a) vs ps
/-- the def's promise: n arguments; the function of their values; whether what it hands back is a new list -/
def spF (K : PySem.W.Frag) (mg : Str → Option Value) (n : Nat) (nw : Bool) (F : List PV → R PV) : Sp := fun vs H Q E =>
  ∃ ps O, (∀ a, O a → H a ≠ none) ∧ Reps K H O vs ps ∧ vs.length = n ∧ (match F ps with
    | .ok p => ∀ v H', Same H H' → RepR K O nw H H' v p → Q v H'
    | .exc c => ∀ C H', Same H H' → mg c = some (.ref C) → E (.ref C) none H'
    | .stuck => False)
def mdR : Bool → Md | false => .s | true => .f
theorem e_call {x : Str} {p : Pos} {k : Nat} {fa : Addr} {fd : FuncData} {pn : List Str} {n : Nat} {nw : Bool} {F : List PV → R PV} {dvs : List V} {dps : List PV} {ds : List Value} (Fo : FnOk X.prog X.w X.K X.mg X.base (L2N.CX X.prog X.w) k fa fd pn (spF X.K X.mg n nw F)) (hr : Room k X.A) (hg : Gl X x) (hm : X.mg x = some (.ref fa))
    (hk : PySem.W.keepIn X.K (.ref fa) = true) (hb : L2.Binds X.K fd pn ds) (hd : Vals dvs ds) (hdp : ∀ H O, Reps X.K H O dvs dps) (tk : L2N.Takes X W) (ha : AJ X W .s (e :: es) fA) (hlen : n = es.length + 1 + dvs.length := by rfl) (hal : ∀ ρ ps, fA ρ = .ok ps → ps.length = es.length + 1) (hdb : (x == ("__debug__" : Str)) = false := by decide)
    (he : starEach (e :: es) X.env = (false, eval e X.env) :: starEach es X.env := by rfl) (hpl : (backTo pos (starEach es X.env)).any (·.1) = false := by rfl) : EJ X W (mdR nw) (.Call (.Name x p) (e :: es) [] pos) (eD (fun ps => F (ps ++ dps)) fA) := by
  refine pe_imp (pe_callSD (E := fun σ cls d H => W cls d σ H) Fo hr hg hm hk hb hd (fun σ => L2N.passAt tk σ) ha hdb he hpl) fun σ H Q ⟨H0, O0, ρ, S, G⟩ => ⟨H0, O0, ρ, S, ?_⟩
  revert G
  unfold eD
  cases hA : fA ρ with
  | stuck => exact False.elim
  | exc c => exact id
  | ok ps =>
    intro G vs H1 s1 r1
    have rr := reps_of r1
    refine ⟨ps ++ dps, OO O0 σ ρ, fun a z => (S.step s1).there z, rr.append (hdp _ _), ?_, ?_⟩
    · rw [List.length_append, rr.length, hal ρ ps hA, hlen]
    · revert G
      rw [R.bind_ok]
      cases F (ps ++ dps) with
      | stuck => exact id
      | exc c => exact fun G C H' s' e => G C H' (s1.trans s') e
      | ok p =>
        intro G v H' s' r'
        refine G v H' (s1.trans s') ?_
        cases nw with
        | false => exact r'
        | true =>
          rcases r' with z | ⟨a, vs', ps', q1, q2, q3, q4, q5⟩
          · exact .inl z
          · exact .inr ⟨a, vs', ps', q1, q2, s1.free q3, q4, q5⟩
end
end PL
set_option Elab.async false
set_option linter.all false
set_option maxRecDepth 100000
set_option autoImplicit false
namespace PL
open PySem PySem.Spec L2
open PyProof.Rows hiding St
section
variable {K : PySem.W.Frag} {H0 H H1 H2 : Hp} {O0 : Addr → Prop} {σ : St} {ρ : Rho} {x : V} {p : PV}
theorem rt_int {i : Int} (r : RepM K O0 σ ρ .t H H2 x (.int i)) : x = .int i := by
  rcases r with r | ⟨_, _, _, _, e, _⟩
  · cases r; rfl
  · cases e
theorem rt_str {i : Str} (r : RepM K O0 σ ρ .t H H2 x (.str i)) : x = .str i := by
  rcases r with r | ⟨_, _, _, _, e, _⟩
  · cases r; rfl
  · cases e
theorem rt_non (r : RepM K O0 σ ρ .t H H2 x .non) : x = .non := by
  rcases r with r | ⟨_, _, _, _, e, _⟩
  · cases r; rfl
  · cases e
theorem rt_lst {l : List PV} (r : RepM K O0 σ ρ .t H H2 x (.lst l)) : ∃ a vs, x = .ref a ∧ H2 a = some (.lst vs) ∧ Reps K H2 (OO O0 σ ρ) vs l := by
  rcases r with r | ⟨a, vs, ps, e1, e2, e3, e4⟩
  · cases r with
    | lst h _ r => exact ⟨_, _, rfl, h, r⟩
  · cases e2; exact ⟨a, vs, e1, e3, e4⟩
theorem sqT_of {O : Addr → Prop} {a : Addr} {xs : List V} (h : H a = some (.tup xs) ∧ ¬ O a ∨ KT K a xs) : SqT K H a xs := by
  rcases h with ⟨h, _⟩ | h
  · exact .inl (.inl h)
  · exact h.sq
theorem rt_tup {l : List PV} (r : RepM K O0 σ ρ .t H H2 x (.tup l)) : ∃ a vs, x = .ref a ∧ (H2 a = some (.tup vs) ∧ ¬ OO O0 σ ρ a ∨ KT K a vs) ∧ Reps K H2 (OO O0 σ ρ) vs l := by
  rcases r with r | ⟨a, vs, ps, e1, e2, e3, e4⟩
  · cases r with
    | tup h r => exact ⟨_, _, rfl, h, r⟩
  · cases e2
theorem rt_frz {l : List PV} (r : RepM K O0 σ ρ .t H H2 x (.frz l)) : ∃ (a : Addr) (ns : List Int), x = .ref a ∧ l = ns.map PV.int ∧ SqL K H2 a (ns.map V.int) := by
  rcases r with r | ⟨a, vs, ps, e1, e2, e3, e4⟩
  · generalize hl : PV.frz l = q at r
    cases r with
    | frz h =>
      cases hl
      refine ⟨_, _, rfl, rfl, ?_⟩
      rcases h with ⟨⟨o, h⟩, _⟩ | h
      · exact .inl (.inr ⟨o, h⟩)
      · exact h _
    | _ => cases hl
  · cases e2
end
def addP : PV → PV → R PV
  | .int a, .int b => .ok (.int (a + b))
  | .str a, .str b => if a.length + b.length ≤ sizeLine then .ok (.str (a ++ b)) else .stuck
  | .tup a, .tup b => if a.length + b.length ≤ sizeLine then .ok (.tup (a ++ b)) else .stuck
  | .lst a, .lst b => if a.length + b.length ≤ sizeLine then .ok (.lst (a ++ b)) else .stuck
  | _, _ => .stuck
def addL : PV → PV → R PV
  | .lst a, .lst b => if a.length + b.length ≤ sizeLine then .ok (.lst (a ++ b)) else .stuck
  | _, _ => .stuck
theorem addP_exc (p q : PV) (c : Str) : addP p q ≠ .exc c := by
  unfold addP; split <;> (try split) <;> exact fun z => nomatch z
theorem addL_exc (p q : PV) (c : Str) : addL p q ≠ .exc c := by
  unfold addL; split <;> (try split) <;> exact fun z => nomatch z
def rAddP (K : PySem.W.Frag) : R2 := fun x y H Q => rI0 (fun i j => .int (i + j)) x y H Q ∨ (∃ i j, x = .str i ∧ y = .str j ∧ i.length + j.length ≤ sizeLine ∧ Q (.str (i ++ j)) H) ∨ rCatA K x y H Q ∨ rCat x y H Q
theorem op_addP {X : Cx} : OpR X (binaryOp .Add) (rAddP X.K) := op_add.or (op_add_str.or (op_catA.or op_cat))
theorem cat_s {K : PySem.W.Frag} {H0 H H2 : Hp} {O0 : Addr → Prop} {σ : St} {ρ : Rho} {x y : V} {a b : List PV} {Q : VK} (S : StR K H0 O0 H σ ρ) (s : Same H H2) (rx : RepM K O0 σ ρ .t H H2 x (.lst a)) (ry : RepM K O0 σ ρ .t H H2 y (.lst b))
    (hz : a.length + b.length ≤ sizeLine) (G : ∀ v H', Same H2 H' → RepM K O0 σ ρ .f H H' v (.lst (a ++ b)) → Q v H') : rCat x y H2 Q := by
  obtain ⟨c, vs, rfl, h1, r1⟩ := rt_lst rx
  obtain ⟨d, ws, rfl, h2, r2⟩ := rt_lst ry
  exact ⟨c, d, vs, ws, rfl, rfl, h1, h2, by rw [r1.length, r2.length]; exact hz, fun l hl => G _ _ (same_new hl) (new_lst (H0 := H0) s (r1.append r2) hl)⟩
theorem s_addL (K : PySem.W.Frag) : OpS K rCat .t .t .f addL := by
  intro H0 O0 σ ρ H H2 x y p q Q S s rx ry G
  unfold addL at G
  split at G
  · split at G
    · rename_i hz; exact cat_s S s rx ry hz G
    · exact G.elim
  · exact G.elim
theorem s_addP (K : PySem.W.Frag) : OpS K (rAddP K) .t .t .s addP := by
  intro H0 O0 σ ρ H H2 x y p q Q S s rx ry G
  unfold addP at G
  split at G
  · rw [rt_int rx, rt_int ry]; exact .inl ⟨_, _, rfl, rfl, G _ _ (Same.refl _) (.int _)⟩
  · split at G
    · rename_i hz
      rw [rt_str rx, rt_str ry]; exact .inr (.inl ⟨_, _, rfl, rfl, hz, G _ _ (Same.refl _) (.str _)⟩)
    · exact G.elim
  · split at G
    · rename_i hz
      obtain ⟨c, vs, rfl, h1, r1⟩ := rt_tup rx
      obtain ⟨d, ws, rfl, h2, r2⟩ := rt_tup ry
      refine .inr (.inr (.inl ⟨c, d, vs, ws, rfl, rfl, sqT_of h1, sqT_of h2, by rw [r1.length, r2.length]; exact hz, fun e => ?_, fun _ e => ?_, fun _ _ l hl => ?_⟩))
      · subst e
        cases r1
        exact G _ _ (Same.refl _) (.tup h2 r2)
      · subst e
        cases r2
        rw [List.append_nil] at G
        exact G _ _ (Same.refl _) (.tup h1 r1)
      · exact G _ _ (same_new hl) (new_tup (H := H) (S.step s) (r1.append r2) hl)
    · exact G.elim
  · split at G
    · rename_i hz
      exact .inr (.inr (.inr (cat_s S s rx ry hz fun v H' s' r' => G v H' s' (RepM.f_s S r'))))
    · exact G.elim
  · exact G.elim
/-- an operation of two ints -/
def intP (c : Int → Int → Bool) (g : Int → Int → PV) : PV → PV → R PV
  | .int a, .int b => if c a b = true then .ok (g a b) else .stuck
  | _, _ => .stuck
theorem intP_exc {c : Int → Int → Bool} {g : Int → Int → PV} (p q : PV) (k : Str) : intP c g p q ≠ .exc k := by
  unfold intP; split <;> (try split) <;> exact fun z => nomatch z
theorem s_int {K : PySem.W.Frag} {C : Int → Int → Prop} {c : Int → Int → Bool} {gv : Int → Int → V} {g : Int → Int → PV} (hc : ∀ a b, c a b = true → C a b) (hr : ∀ H O a b, Rep K H O (gv a b) (g a b)) : OpS K (rI C gv) .t .t .s (intP c g) := by
  intro H0 O0 σ ρ H H2 x y p q Q S s rx ry G
  unfold intP at G
  split at G
  · split at G
    · rename_i hz
      rw [rt_int rx, rt_int ry]; exact ⟨_, _, rfl, rfl, hc _ _ hz, G _ _ (Same.refl _) (hr _ _ _ _)⟩
    · exact G.elim
  · exact G.elim
theorem s_int0 {K : PySem.W.Frag} {gv : Int → Int → V} {g : Int → Int → PV} (hr : ∀ H O a b, Rep K H O (gv a b) (g a b)) : OpS K (rI0 gv) .t .t .s (intP (fun _ _ => true) g) := by
  intro H0 O0 σ ρ H H2 x y p q Q S s rx ry G
  unfold intP at G
  split at G
  · rw [if_pos rfl] at G
    rw [rt_int rx, rt_int ry]; exact ⟨_, _, rfl, rfl, G _ _ (Same.refl _) (hr _ _ _ _)⟩
  · exact G.elim
abbrev subP := intP (fun _ _ => true) fun a b => .int (a - b)
abbrev okMul (a b : Int) : Bool := decide (a.natAbs.log2 + b.natAbs.log2 < 100000000)
/-- factors of together less than a hundred million bits -/
def CMulV (i j : Int) : Prop := i.natAbs.log2 + j.natAbs.log2 < 100000000
theorem CMulV.okM {i j : Int} (h : CMulV i j) : IntMulOk i j := by
  have b : ∀ y : Int, Builtin.Int.intBits y ≤ y.natAbs.log2 + 1 := fun y => by unfold Builtin.Int.intBits; split <;> omega
  have h1 := b i
  have h2 := b j
  unfold CMulV at h
  exact CMulX.ok (show CMulX i j by unfold CMulX; omega)
theorem op_mulV {X : Cx} : OpR X (binaryOp .Mult) (rI CMulV fun i j => .int (i * j)) := opI fun _ _ _ _ _ _ _ hc q => mul_int q hc.okM
abbrev mulP := intP okMul fun a b => .int (a * b)
abbrev okDiv (_ b : Int) : Bool := decide (b ≠ 0) && decide (b.natAbs.log2 < 9000)
abbrev fdivP := intP okDiv fun a b => .int (a.fdiv b)
abbrev modP := intP (fun _ b => decide (b ≠ 0)) fun a b => .int (a.fmod b)
abbrev ltP := intP (fun _ _ => true) fun a b => .bl (decide (a < b))
abbrev leP := intP (fun _ _ => true) fun a b => .bl (decide (a ≤ b))
abbrev gtP := intP (fun _ _ => true) fun a b => .bl (decide (b < a))
abbrev geP := intP (fun _ _ => true) fun a b => .bl (decide (b ≤ a))
def CDivA (i j : Int) : Prop := j ≠ 0 ∧ j.natAbs.log2 < 9000
theorem op_fdivA {X : Cx} : OpR X (binaryOp .FloorDiv) (rI CDivA fun i j => .int (i.fdiv j)) := opI fun i j _ _ _ _ _ hc q => floordiv_int hc.1 q (.inl (PyProof.noPylong_of_log2 hc.2))
theorem okDiv_C (a b : Int) (h : okDiv a b = true) : CDivA a b := by
  rw [Bool.and_eq_true, decide_eq_true_eq, decide_eq_true_eq] at h; exact h
section
variable {X : Cx} {W : WX} {e a b c : Expr} {pos : Pos} {m : Md} {f g h : Rho → R PV}
theorem e_add (ha : EJ X W .t a f) (hb : EJ X W .t b g) : EJ X W .s (.BinOp a .Add b pos) (e2 addP f g) := e_op op_addP addP_exc (s_addP _) ha hb
theorem e_addL (ha : EJ X W .t a f) (hb : EJ X W .t b g) : EJ X W .f (.BinOp a .Add b pos) (e2 addL f g) := e_op op_cat addL_exc (s_addL _) ha hb
theorem e_sub (ha : EJ X W .t a f) (hb : EJ X W .t b g) : EJ X W .s (.BinOp a .Sub b pos) (e2 subP f g) := e_op op_sub intP_exc (s_int0 fun _ _ _ _ => .int _) ha hb
theorem e_mul (ha : EJ X W .t a f) (hb : EJ X W .t b g) : EJ X W .s (.BinOp a .Mult b pos) (e2 mulP f g) := e_op op_mulV intP_exc (s_int (fun _ _ h => of_decide_eq_true h) fun _ _ _ _ => .int _) ha hb
theorem e_fdiv (ha : EJ X W .t a f) (hb : EJ X W .t b g) : EJ X W .s (.BinOp a .FloorDiv b pos) (e2 fdivP f g) := e_op op_fdivA intP_exc (s_int okDiv_C fun _ _ _ _ => .int _) ha hb
theorem e_mod (ha : EJ X W .t a f) (hb : EJ X W .t b g) : EJ X W .s (.BinOp a .Mod b pos) (e2 modP f g) := e_op op_modN intP_exc (s_int (fun _ _ h => of_decide_eq_true h) fun _ _ _ _ => .int _) ha hb
theorem t_lt (ha : EJ X W .t a f) (hb : EJ X W .t b g) : TJ X W (.Compare a [.Lt] [b] pos) (tB1 (e2 ltP f g)) := t_cmp op_lt intP_exc (s_int0 fun _ _ _ _ => .bl _) ha hb (nomark _)
theorem t_le (ha : EJ X W .t a f) (hb : EJ X W .t b g) : TJ X W (.Compare a [.LtE] [b] pos) (tB1 (e2 leP f g)) := t_cmp op_le intP_exc (s_int0 fun _ _ _ _ => .bl _) ha hb (nomark _)
theorem t_gt (ha : EJ X W .t a f) (hb : EJ X W .t b g) : TJ X W (.Compare a [.Gt] [b] pos) (tB1 (e2 gtP f g)) := t_cmp op_gt intP_exc (s_int0 fun _ _ _ _ => .bl _) ha hb (nomark _)
def negP : PV → R PV
  | .int a => .ok (.int (-a))
  | _ => .stuck
theorem e_neg (ha : EJ X W .t a f) : EJ X W .s (.UnaryOp .USub a pos) (e1 negP f) := by
  refine e_un un_neg (fun p c => ?_) ?_ ha
  · unfold negP; split <;> exact fun z => nomatch z
  · intro H0 O0 σ ρ H H2 x p Q S s rx G
    unfold negP at G
    split at G
    · rw [rt_int rx]; exact ⟨_, rfl, G _ _ (Same.refl _) (.int _)⟩
    · exact G.elim
end
mutual
def toD : PV → PyData
  | .non => .none
  | .bl b => .bool b
  | .int i => .int i
  | .str s => .str s
  | .tup l => .tuple (toDs l)
  | .lst l => .list (toDs l)
  | .frz l => .list (toDs l)
  | .dct | .dt _ | .obj _ _ _ => .dict []
def toDs : List PV → List PyData
  | [] => []
  | p :: ps => toD p :: toDs ps
end
mutual
def eqV' : PV → PV → Bool
  | .non, .non => true
  | .bl a, .bl b => a == b
  | .bl a, .int j => (if a then 1 else 0) == j
  | .int i, .bl b => i == (if b then 1 else 0)
  | .int i, .int j => i == j
  | .str x, .str y => x == y
  | .lst xs, .lst ys => eqVs xs ys
  | .lst xs, .frz ys => eqVs xs ys
  | .frz xs, .lst ys => eqVs xs ys
  | .frz xs, .frz ys => eqVs xs ys
  | .tup xs, .tup ys => eqVs xs ys
  | _, _ => false
def eqVs : List PV → List PV → Bool
  | [], [] => true
  | x :: xs, y :: ys => eqV' x y && eqVs xs ys
  | _, _ => false
end
/-- data that may be compared, by how deep it is -/
def okD : Nat → PV → Bool
  | _, .non => true
  | _, .bl _ => true
  | _, .int _ => true
  | _, .str s => PySem.PyData.strOk s
  | n + 1, .tup l => l.all (okD n)
  | n + 1, .lst l => l.all (okD n)
  | n + 1, .frz l => l.all (okD n)
  | _, _ => false
def eqP (p q : PV) : R PV := if (okD 30 p && okD 30 q) = true then .ok (.bl (eqV' p q)) else .stuck
def neP (p q : PV) : R PV := if (okD 30 p && okD 30 q) = true then .ok (.bl (!eqV' p q)) else .stuck
mutual
theorem eqv_toD : ∀ p q : PV, PyData.eqv (toD p) (toD q) = eqV' p q
  | .lst a, .lst b | .lst a, .frz b | .frz a, .lst b | .frz a, .frz b | .tup a, .tup b => by simp only [toD, PyData.eqv, eqV', eqv_toDs a b]
  | .non, q | .bl _, q | .int _, q | .str _, q | .dct, q | .dt _, q | .obj _ _ _, q => by cases q <;> simp only [toD, PyData.eqv, eqV']
  | .lst a, .non | .lst a, .bl _ | .lst a, .int _ | .lst a, .str _ | .lst a, .tup _ | .lst a, .dct | .lst a, .dt _ | .lst a, .obj _ _ _ => by simp only [toD, PyData.eqv, eqV']
  | .frz a, .non | .frz a, .bl _ | .frz a, .int _ | .frz a, .str _ | .frz a, .tup _ | .frz a, .dct | .frz a, .dt _ | .frz a, .obj _ _ _ => by simp only [toD, PyData.eqv, eqV']
  | .tup a, .non | .tup a, .bl _ | .tup a, .int _ | .tup a, .str _ | .tup a, .lst _ | .tup a, .frz _ | .tup a, .dct | .tup a, .dt _ | .tup a, .obj _ _ _ => by simp only [toD, PyData.eqv, eqV']
theorem eqv_toDs : ∀ p q : List PV, PyData.eqvAll (toDs p) (toDs q) = eqVs p q
  | [], [] => by simp only [toDs, PyData.eqvAll, eqVs]
  | x :: xs, y :: ys => by simp only [toDs, PyData.eqvAll, eqVs, eqv_toD x y, eqv_toDs xs ys]
  | [], _ :: _ => by simp only [toDs, PyData.eqvAll, eqVs]
  | _ :: _, [] => by simp only [toDs, PyData.eqvAll, eqVs]
end
mutual
theorem okD_lay : ∀ (n : Nat) (p : PV), okD n p = true → (toD p).canLay0 = true ∧ (toD p).depth ≤ n
  | n, .non, _ => ⟨rfl, Nat.zero_le _⟩
  | n, .bl _, _ => ⟨rfl, Nat.zero_le _⟩
  | n, .int _, _ => ⟨rfl, Nat.zero_le _⟩
  | n, .str s, h => ⟨by simpa only [toD, PyData.canLay0, okD] using h, Nat.zero_le _⟩
  | n, .dct, h | n, .dt _, h | n, .obj _ _ _, h => by simp [okD] at h
  | 0, .tup l, h => by simp [okD] at h
  | 0, .lst l, h => by simp [okD] at h
  | 0, .frz l, h => by simp [okD] at h
  | n + 1, .tup l, h => by
    have z := okDs_lay n l (by simpa only [okD] using h)
    simp only [toD, PyData.canLay0, PyData.depth]
    exact ⟨z.1, by omega⟩
  | n + 1, .lst l, h => by
    have z := okDs_lay n l (by simpa only [okD] using h)
    simp only [toD, PyData.canLay0, PyData.depth]
    exact ⟨z.1, by omega⟩
  | n + 1, .frz l, h => by
    have z := okDs_lay n l (by simpa only [okD] using h)
    simp only [toD, PyData.canLay0, PyData.depth]
    exact ⟨z.1, by omega⟩
theorem okDs_lay : ∀ (n : Nat) (l : List PV), l.all (okD n) = true → PyData.canLayAll0 (toDs l) = true ∧ PyData.depthAll (toDs l) ≤ n
  | n, [], _ => ⟨rfl, Nat.zero_le _⟩
  | n, p :: ps, h => by
    rw [List.all_cons, Bool.and_eq_true] at h
    have z1 := okD_lay n p h.1
    have z2 := okDs_lay n ps h.2
    simp only [toDs, PyData.canLayAll0, PyData.depthAll, z1.1, z2.1]
    exact ⟨rfl, Nat.max_le.mpr ⟨z1.2, z2.2⟩⟩
end
theorem okD_shaped {p : PV} (h : okD 30 p = true) : SeqAt.shaped (toD p) = true := by
  have z := okD_lay 30 p h
  unfold SeqAt.shaped
  rw [z.1, decide_eq_true (show (toD p).depth ≤ 64 by omega)] <;> rfl
theorem dpAll_ints {K : PySem.W.Frag} {H : Hp} : ∀ ns : List Int, DpAll K H (ns.map V.int) (toDs (ns.map PV.int))
  | [] => by simp only [List.map_nil, toDs]; exact .nil
  | n :: ns => by simp only [List.map_cons, toDs, toD]; exact .cons (.int n) (dpAll_ints ns)
mutual
theorem rep_dp {K : PySem.W.Frag} {H : Hp} {O : Addr → Prop} : ∀ {v : V} {p : PV} (n : Nat), Rep K H O v p → okD n p = true → Dp K H v (toD p)
  | _, _, _, .non, _ => by simp only [toD]; exact .non
  | _, _, _, .bl b, _ => by simp only [toD]; exact .bl b
  | _, _, _, .int i, _ => by simp only [toD]; exact .int i
  | _, _, _, .str s, _ => by simp only [toD]; exact .str s
  | _, _, 0, .lst _ _ _, h => by simp [okD] at h
  | _, _, n + 1, .lst h1 _ r, h => by simp only [toD]; exact .lst (.inl (.inl h1)) (reps_dp n r (by simpa only [okD] using h))
  | _, _, 0, .tup _ _, h => by simp [okD] at h
  | _, _, n + 1, .tup h1 r, h => by simp only [toD]; exact .tup (sqT_of h1) (reps_dp n r (by simpa only [okD] using h))
  | _, _, _, .frz h1, h => by
    simp only [toD]
    refine .lst ?_ (dpAll_ints _)
    rcases h1 with ⟨⟨o, h1⟩, _⟩ | h1
    · exact .inl (.inr ⟨o, h1⟩)
    · exact h1 _
  | _, _, n, .dct _ _, h | _, _, n, .dt _ _, h | _, _, n, .obj _ _ _ _ _, h => by simp [okD] at h
theorem reps_dp {K : PySem.W.Frag} {H : Hp} {O : Addr → Prop} : ∀ {v : List V} {p : List PV} (n : Nat), Reps K H O v p → p.all (okD n) = true → DpAll K H v (toDs p)
  | _, _, _, .nil, _ => by simp only [toDs]; exact .nil
  | _, _, n, .cons h r, hz => by
    rw [List.all_cons, Bool.and_eq_true] at hz
    simp only [toDs]
    exact .cons (rep_dp n h hz.1) (reps_dp n r hz.2)
end
theorem rt_dp {K : PySem.W.Frag} {H H2 : Hp} {O0 : Addr → Prop} {σ : St} {ρ : Rho} {x : V} {p : PV} (r : RepM K O0 σ ρ .t H H2 x p) (h : okD 30 p = true) : Dp K H2 x (toD p) := by
  rcases r with r | ⟨a, vs, ps, rfl, rfl, e3, e4⟩
  · exact rep_dp 30 r h
  · simp only [toD]; exact .lst (.inl (.inl e3)) (reps_dp 29 e4 (by simpa only [okD] using h))
theorem eqP_exc (p q : PV) (c : Str) : eqP p q ≠ .exc c := by unfold eqP; split <;> exact fun z => nomatch z
theorem neP_exc (p q : PV) (c : Str) : neP p q ≠ .exc c := by unfold neP; split <;> exact fun z => nomatch z
theorem s_eq (K : PySem.W.Frag) : OpS K (rEqD K) .t .t .s eqP := by
  intro H0 O0 σ ρ H H2 x y p q Q S s rx ry G
  unfold eqP at G
  split at G
  · rename_i hz
    rw [Bool.and_eq_true] at hz
    exact ⟨_, _, rt_dp rx hz.1, rt_dp ry hz.2, okD_shaped hz.1, okD_shaped hz.2, by rw [eqv_toD]; exact G _ _ (Same.refl _) (.bl _)⟩
  · exact G.elim
theorem s_ne (K : PySem.W.Frag) : OpS K (rNeD K) .t .t .s neP := by
  intro H0 O0 σ ρ H H2 x y p q Q S s rx ry G
  unfold neP at G
  split at G
  · rename_i hz
    rw [Bool.and_eq_true] at hz
    exact ⟨_, _, rt_dp rx hz.1, rt_dp ry hz.2, okD_shaped hz.1, okD_shaped hz.2, by rw [eqv_toD]; exact G _ _ (Same.refl _) (.bl _)⟩
  · exact G.elim
section
variable {X : Cx} {W : WX} {e a b c : Expr} {pos : Pos} {m : Md} {f g h : Rho → R PV}
theorem e_eq (hu : X.A.units + 64 < cLine) (ha : EJ X W .t a f) (hb : EJ X W .t b g) : EJ X W .s (.Compare a [.Eq] [b] pos) (e2 eqP f g) := e_cmp (op_eqD hu) eqP_exc (s_eq _) ha hb (nomark _)
theorem e_ne (hu : X.A.units + 64 < cLine) (ha : EJ X W .t a f) (hb : EJ X W .t b g) : EJ X W .s (.Compare a [.NotEq] [b] pos) (e2 neP f g) := e_cmp (op_neD hu) neP_exc (s_ne _) ha hb (nomark _)
theorem t_eq (hu : X.A.units + 64 < cLine) (ha : EJ X W .t a f) (hb : EJ X W .t b g) : TJ X W (.Compare a [.Eq] [b] pos) (tB1 (e2 eqP f g)) := t_cmp (op_eqD hu) eqP_exc (s_eq _) ha hb (nomark _)
theorem t_ne (hu : X.A.units + 64 < cLine) (ha : EJ X W .t a f) (hb : EJ X W .t b g) : TJ X W (.Compare a [.NotEq] [b] pos) (tB1 (e2 neP f g)) := t_cmp (op_neD hu) neP_exc (s_ne _) ha hb (nomark _)
/-- is None -/
def isNP : PV → PV → R PV
  | .non, .non => .ok (.bl true)
  | _, .non => .ok (.bl false)
  | _, _ => .stuck
def notNP : PV → PV → R PV
  | .non, .non => .ok (.bl false)
  | _, .non => .ok (.bl true)
  | _, _ => .stuck
theorem isNP_exc (p q : PV) (c : Str) : isNP p q ≠ .exc c := by unfold isNP; split <;> exact fun z => nomatch z
theorem notNP_exc (p q : PV) (c : Str) : notNP p q ≠ .exc c := by unfold notNP; split <;> exact fun z => nomatch z
theorem rt_notnon {K : PySem.W.Frag} {H H2 : Hp} {O0 : Addr → Prop} {σ : St} {ρ : Rho} {x : V} {p : PV} (r : RepM K O0 σ ρ .t H H2 x p) (hp : p ≠ .non) : decide (x = .non) = false := by
  refine decide_eq_false fun e => ?_
  subst e
  rcases r with r | ⟨a, vs, ps, e1, _⟩
  · cases r; exact hp rfl
  · cases e1
theorem s_isN (K : PySem.W.Frag) : OpS K (fun x y H Q => y = .non ∧ Q (.bl (decide (x = .non))) H) .t .t .s isNP := by
  intro H0 O0 σ ρ H H2 x y p q Q S s rx ry G
  unfold isNP at G
  split at G
  · rw [rt_non rx, rt_non ry]; exact ⟨rfl, G _ _ (Same.refl _) (.bl true)⟩
  · rename_i hp
    rw [rt_non ry, rt_notnon rx (fun z => hp z)]; exact ⟨rfl, G _ _ (Same.refl _) (.bl false)⟩
  · exact G.elim
theorem s_notN (K : PySem.W.Frag) : OpS K (fun x y H Q => y = .non ∧ Q (.bl (!decide (x = .non))) H) .t .t .s notNP := by
  intro H0 O0 σ ρ H H2 x y p q Q S s rx ry G
  unfold notNP at G
  split at G
  · rw [rt_non rx, rt_non ry]; exact ⟨rfl, G _ _ (Same.refl _) (.bl false)⟩
  · rename_i hp
    rw [rt_non ry, rt_notnon rx (fun z => hp z)]; exact ⟨rfl, G _ _ (Same.refl _) (.bl true)⟩
  · exact G.elim
theorem t_isN (ha : EJ X W .t a f) (hb : EJ X W .t b g) : TJ X W (.Compare a [.Is] [b] pos) (tB1 (e2 isNP f g)) := t_cmp op_isN isNP_exc (s_isN _) ha hb (nomark _)
theorem t_notN (ha : EJ X W .t a f) (hb : EJ X W .t b g) : TJ X W (.Compare a [.IsNot] [b] pos) (tB1 (e2 notNP f g)) := t_cmp op_notN notNP_exc (s_notN _) ha hb (nomark _)
def eChain (g1 g2 : PV → PV → R PV) (f g h : Rho → R PV) : Rho → R PV := fun ρ => (f ρ).bind fun x => (g ρ).bind fun y => (g1 x y).bind fun z => (asB z).bind fun k => if k = true then (h ρ).bind fun w => g2 y w else .ok (.bl false)
end
end PL
set_option Elab.async false
set_option linter.all false
set_option maxRecDepth 100000
set_option autoImplicit false
namespace PL
open PySem PySem.Spec L2
open PyProof.Rows hiding St
def ixP : PV → PV → R PV
  | .lst l, .int i | .tup l, .int i | .frz l, .int i => match atI l i with
    | some p => .ok p
    | none => .stuck
  | .str s, .int i => if s.length ≤ sizeLine then (match atI s.cps.toList i with
    | some c => .ok (.str ⟨#[c]⟩)
    | none => .stuck) else .stuck
  | _, _ => .stuck
theorem ixP_exc (p q : PV) (c : Str) : ixP p q ≠ .exc c := by
  unfold ixP; split <;> (try split) <;> (try split) <;> exact fun z => nomatch z
theorem reps_at {K : PySem.W.Frag} {H : Hp} {O : Addr → Prop} {vs : List V} {ps : List PV} {i : Int} {p : PV} (r : Reps K H O vs ps) (h : atI ps i = some p) : ∃ v, atI vs i = some v ∧ Rep K H O v p := by
  unfold atI at h ⊢
  rw [r.length]
  cases q : ixN ps.length i with
  | none => rw [q] at h; cases h
  | some j =>
    rw [q, Option.bind_some] at h
    rw [Option.bind_some]
    exact r.get h
theorem s_ix (K : PySem.W.Frag) : OpS K (rIx K) .t .t .s ixP := by
  intro H0 O0 σ ρ H H2 x y p q Q S s rx ry G
  unfold ixP at G
  split at G
  · split at G
    · rename_i p hp
      obtain ⟨a, vs, rfl, h1, r1⟩ := rt_lst rx
      obtain ⟨v, h2, r2⟩ := reps_at r1 hp
      exact .inl ⟨a, vs, _, v, rfl, rt_int ry, .inl (.inl h1), h2, G _ _ (Same.refl _) r2⟩
    · exact G.elim
  · split at G
    · rename_i p hp
      obtain ⟨a, vs, rfl, h1, r1⟩ := rt_tup rx
      obtain ⟨v, h2, r2⟩ := reps_at r1 hp
      exact .inr (.inl ⟨a, vs, _, v, rfl, rt_int ry, sqT_of h1, h2, G _ _ (Same.refl _) r2⟩)
    · exact G.elim
  · split at G
    · rename_i p hp
      obtain ⟨a, ns, rfl, rfl, h1⟩ := rt_frz rx
      obtain ⟨v, h2, r2⟩ := reps_at (K := K) (H := H2) (O := OO O0 σ ρ) (Reps.ofInts ns) hp
      exact .inl ⟨a, _, _, v, rfl, rt_int ry, h1, h2, G _ _ (Same.refl _) r2⟩
    · exact G.elim
  · split at G
    · rename_i hz
      split at G
      · rename_i c hc
        exact .inr (.inr ⟨_, _, c, rt_str rx, rt_int ry, hz, hc, G _ _ (Same.refl _) (.str _)⟩)
      · exact G.elim
    · exact G.elim
  · exact G.elim
def cutG {α : Type} (xs : List α) (lo hi : Option Int) : List α := (xs.drop (HT.sIx xs.length 0 lo)).take (HT.sIx xs.length xs.length hi - HT.sIx xs.length 0 lo)
theorem reps_cut {K : PySem.W.Frag} {H : Hp} {O : Addr → Prop} {vs : List V} {ps : List PV} (lo hi : Option Int) (r : Reps K H O vs ps) : Reps K H O (cutV vs lo hi) (cutG ps lo hi) := by
  unfold cutV cutG
  rw [r.length]
  exact (r.drop _).take _
def slP (p : PV) (lo hi : Option Int) : R PV := match p with
  | .lst l | .frz l => .ok (.lst (cutG l lo hi))
  | .tup l => .ok (.tup (cutG l lo hi))
  | .str s => if s.length ≤ sizeLine then .ok (.str (cutS s lo hi)) else .stuck
  | _ => .stuck
def slL (p : PV) (lo hi : Option Int) : R PV := match p with
  | .lst l | .frz l => .ok (.lst (cutG l lo hi))
  | _ => .stuck
def asI : PV → R Int
  | .int i => .ok i
  | _ => .stuck
def oNone : Rho → R (Option Int) := fun _ => .ok none
def oSome (f : Rho → R PV) : Rho → R (Option Int) := fun ρ => (f ρ).bind fun p => (asI p).bind fun i => .ok (some i)
def eSl (g : PV → Option Int → Option Int → R PV) (f : Rho → R PV) (lo hi : Rho → R (Option Int)) : Rho → R PV := fun ρ => (f ρ).bind fun p => (lo ρ).bind fun l => (hi ρ).bind fun h => g p l h
def tO' (K : PySem.W.Frag) (mg : Str → Option Value) (W : WX) (f : Rho → R (Option Int)) : L2.TO := fun σ H Q =>
  ∃ H0 O0 ρ, StR K H0 O0 H σ ρ ∧ (match f ρ with
    | .ok o => ∀ H', Same H H' → Q o H'
    | .exc c => ∀ C H', Same H H' → mg c = some (.ref C) → W (.ref C) none σ H'
    | .stuck => False)
abbrev OJ (X : Cx) (W : WX) (e : Option Expr) (f : Rho → R (Option Int)) : Prop := PO X e (tO' X.K X.mg W f)
def SlS (K : PySem.W.Frag) (r : V → Option Int → Option Int → Hp → VK → Prop) (m : Md) (g : PV → Option Int → Option Int → R PV) : Prop :=
  ∀ {H0 O0 σ ρ H H2 x p lo hi} {Q : VK}, StR K H0 O0 H σ ρ → Same H H2 → RepM K O0 σ ρ .t H H2 x p → GotV K O0 σ ρ m H H2 Q (g p lo hi) → r x lo hi H2 Q
section
variable {X : Cx} {W : WX} {e a b c : Expr} {pos p2 : Pos} {m : Md} {f g h : Rho → R PV} {lo hi : Option Expr} {fl fh : Rho → R (Option Int)}
theorem po_imp {t t' : L2.TO} {e : Option Expr} (h : PO X e t) (q : ∀ σ H Q, t' σ H Q → t σ H Q) : PO X e t' := ⟨fun pins s σ H Q I hw => h.run pins s σ H Q I (q σ H Q hw)⟩
theorem o_none : OJ X W none oNone := by
  refine po_imp po_none fun σ H Q ⟨H0, O0, ρ, S, G⟩ => ?_
  exact G H (Same.refl H)
theorem o_some (ha : EJ X W .s e f) : OJ X W (some e) (oSome f) := by
  refine po_imp (po_some ha) fun σ H Q ⟨H0, O0, ρ, S, G⟩ => ⟨H0, O0, ρ, S, ?_⟩
  revert G
  unfold oSome
  cases f ρ with
  | stuck => exact False.elim
  | exc c => exact fun G => G
  | ok p =>
    cases p with
    | int i => exact fun G v H' s r => by cases r; exact ⟨i, rfl, G H' s⟩
    | _ => exact False.elim
theorem e_sl {r : V → Option Int → Option Int → Hp → VK → Prop} {g' : PV → Option Int → Option Int → R PV} (hr : SlR X r) (hg : ∀ p l h c, g' p l h ≠ .exc c) (ho : SlS X.K r m g') (ha : EJ X W .t a f) (hl : OJ X W lo fl) (hh : OJ X W hi fh) :
    EJ X W m (.Subscript a (.Slice lo hi none p2) pos) (eSl g' f fl fh) := by
  refine pe_imp (pe_slice hr ha hl hh) fun σ H Q ⟨H0, O0, ρ, S, G⟩ => ⟨H0, O0, ρ, S, ?_⟩
  revert G
  unfold eSl
  cases f ρ with
  | stuck => exact False.elim
  | exc c => exact fun G => G
  | ok p =>
    intro G x H1 s1 r1
    refine ⟨H0, O0, ρ, S.step s1, ?_⟩
    revert G
    rw [R.bind_ok]
    cases fl ρ with
    | stuck => exact False.elim
    | exc c => exact fun G C H' s' => G C H' (s1.trans s')
    | ok l =>
      intro G H2 s2
      refine ⟨H0, O0, ρ, S.step (s1.trans s2), ?_⟩
      revert G
      rw [R.bind_ok]
      cases fh ρ with
      | stuck => exact False.elim
      | exc c => exact fun G C H' s' => G C H' ((s1.trans s2).trans s')
      | ok h =>
        intro G H3 s3
        exact ho S ((s1.trans s2).trans s3) (r1.step (s2.trans s3)) (Got.v (hg p l h) ((s1.trans s2).trans s3) G)
def rSlP (K : PySem.W.Frag) : V → Option Int → Option Int → Hp → VK → Prop := fun x lo hi H Q => rSlL K x lo hi H Q ∨ rSlA K x lo hi H Q ∨ rSlS x lo hi H Q
theorem sl_P : SlR X (rSlP X.K) := sl_list.or (sl_tupA.or sl_str)
theorem slP_exc (p : PV) (l h : Option Int) (c : Str) : slP p l h ≠ .exc c := by
  unfold slP; split <;> (try split) <;> exact fun z => nomatch z
theorem slL_exc (p : PV) (l h : Option Int) (c : Str) : slL p l h ≠ .exc c := by
  unfold slL; split <;> exact fun z => nomatch z
theorem sl_ints (ns : List Int) (lo hi : Option Int) : cutV (ns.map V.int) lo hi = (cutG ns lo hi).map V.int ∧ cutG (ns.map PV.int) lo hi = (cutG ns lo hi).map PV.int := by
  unfold cutV cutG
  rw [List.length_map, List.length_map, List.map_take, List.map_drop, List.map_take, List.map_drop]
  exact ⟨rfl, rfl⟩
theorem s_slL (K : PySem.W.Frag) : SlS K (rSlL K) .f slL := by
  intro H0 O0 σ ρ H H2 x p lo hi Q S s rx G
  unfold slL at G
  split at G
  · obtain ⟨a, vs, rfl, h1, r1⟩ := rt_lst rx
    exact ⟨a, vs, rfl, .inl (.inl h1), fun q hq => G _ _ (same_new hq) (new_lst (H0 := H0) s (reps_cut lo hi r1) hq)⟩
  · obtain ⟨a, ns, rfl, rfl, h1⟩ := rt_frz rx
    refine ⟨a, _, rfl, h1, fun q hq => G _ _ (same_new hq) ?_⟩
    rw [(sl_ints ns lo hi).1, (sl_ints ns lo hi).2]
    exact new_lst (H0 := H0) s (Reps.ofInts _) hq
  · exact G.elim
theorem s_slP (K : PySem.W.Frag) : SlS K (rSlP K) .s slP := by
  intro H0 O0 σ ρ H H2 x p lo hi Q S s rx G
  unfold slP at G
  split at G
  · exact .inl (s_slL K S s rx fun v H' s' r => G v H' s' (RepM.f_s S r))
  · exact .inl (s_slL K S s rx fun v H' s' r => G v H' s' (RepM.f_s S r))
  · obtain ⟨a, vs, rfl, h1, r1⟩ := rt_tup rx
    refine .inr (.inl ⟨a, vs, rfl, sqT_of h1, fun ⟨z1, z2⟩ => ?_, fun _ q hq => G _ _ (same_new hq) (new_tup (H := H) (S.step s) (reps_cut lo hi r1) hq)⟩)
    have e : ∀ {α : Type} (l : List α), l.length = vs.length → cutG l lo hi = l := fun l hl => by
      unfold cutG
      rw [hl, z1, z2, List.drop_zero, Nat.sub_zero, ← hl, List.take_length]
    rw [e _ r1.length.symm] at G
    exact G _ _ (Same.refl _) (.tup h1 r1)
  · split at G
    · rename_i hz
      exact .inr (.inr ⟨_, rt_str rx, hz, G _ _ (Same.refl _) (.str _)⟩)
    · exact G.elim
  · exact G.elim
theorem e_slice (ha : EJ X W .t a f) (hl : OJ X W lo fl) (hh : OJ X W hi fh) : EJ X W .s (.Subscript a (.Slice lo hi none p2) pos) (eSl slP f fl fh) := e_sl sl_P slP_exc (s_slP _) ha hl hh
theorem e_sliceL (ha : EJ X W .t a f) (hl : OJ X W lo fl) (hh : OJ X W hi fh) : EJ X W .f (.Subscript a (.Slice lo hi none p2) pos) (eSl slL f fl fh) := e_sl sl_list slL_exc (s_slL _) ha hl hh
theorem e_item (ha : EJ X W .t a f) (hb : EJ X W .t b g) (hs : PlainIx b) : EJ X W .s (.Subscript a b pos) (e2 ixP f g) := e_ix ix_seq ixP_exc (s_ix _) ha hb hs
end
def lenP : List PV → R PV
  | [.lst l] | [.tup l] | [.frz l] => .ok (.int l.length)
  | [.str s] => if s.length ≤ sizeLine then .ok (.int s.length) else .stuck
  | _ => .stuck
def absP : List PV → R PV
  | [.int i] => .ok (.int (if i < 0 then -i else i))
  | _ => .stuck
def listP : List PV → R PV
  | [.lst l] | [.tup l] | [.frz l] => .ok (.lst l)
  | _ => .stuck
def tupleP : List PV → R PV
  | [.lst l] | [.tup l] | [.frz l] => .ok (.tup l)
  | _ => .stuck
def asBs : List PV → Option (List Bool)
  | [] => some []
  | .bl b :: r => (asBs r).map (b :: ·)
  | _ => none
def allP : List PV → R PV
  | [.lst l] => match asBs l with
    | some bs => .ok (.bl (bs.all id))
    | none => .stuck
  | _ => .stuck
def anyP : List PV → R PV
  | [.lst l] => match asBs l with
    | some bs => .ok (.bl (bs.any id))
    | none => .stuck
  | _ => .stuck
def strP : List PV → R PV
  | [.int i] => if i.natAbs.log2 < 1920 then .ok (.str (toString i)) else .stuck
  | _ => .stuck
theorem asBs_map : ∀ {l : List PV} {bs : List Bool}, asBs l = some bs → l = bs.map PV.bl
  | [], _, h => by cases h; rfl
  | .bl b :: r, bs, h => by
    unfold asBs at h
    obtain ⟨cs, h1, rfl⟩ := Option.map_eq_some_iff.mp h
    rw [asBs_map h1]; rfl
  | .non :: _, _, h | .int _ :: _, _, h | .str _ :: _, _, h | .tup _ :: _, _, h | .lst _ :: _, _, h | .frz _ :: _, _, h | .dct :: _, _, h | .dt _ :: _, _, h | .obj _ _ _ :: _, _, h => by simp [asBs] at h
theorem asBs_of : ∀ bs : List Bool, asBs (bs.map PV.bl) = some bs
  | [] => rfl
  | b :: bs => by simp [asBs, asBs_of bs]
section
variable {X : Cx} {W : WX}
theorem pr1 {F : V → PV → Prop} {vs : List V} {p : PV} (h : Paired F vs [p]) : ∃ v, vs = [v] ∧ F v p := by
  cases h with
  | cons a r => cases r; exact ⟨_, rfl, a⟩
theorem pr2 {F : V → PV → Prop} {vs : List V} {p q : PV} (h : Paired F vs [p, q]) : ∃ v w, vs = [v, w] ∧ F v p ∧ F w q := by
  cases h with
  | cons a r =>
    obtain ⟨w, rfl, b⟩ := pr1 r
    exact ⟨_, _, rfl, a, b⟩
theorem s_len (K : PySem.W.Frag) : CallS K (fun xs H Q => ∃ x n, xs = [x] ∧ LenV K x H n ∧ Q (.int n) H) .t .s lenP := by
  intro H0 O0 σ ρ H H2 xs ps Q S s r G
  unfold lenP at G
  split at G
  · obtain ⟨v, rfl, r1⟩ := pr1 r
    obtain ⟨a, vs, rfl, h1, r2⟩ := rt_lst r1
    exact ⟨_, vs.length, rfl, .inl ⟨vs, .inl (.inl h1), rfl⟩, by rw [r2.length]; exact G _ _ (Same.refl _) (.int _)⟩
  · obtain ⟨v, rfl, r1⟩ := pr1 r
    obtain ⟨a, vs, rfl, h1, r2⟩ := rt_tup r1
    exact ⟨_, vs.length, rfl, .inr ⟨vs, sqT_of h1, rfl⟩, by rw [r2.length]; exact G _ _ (Same.refl _) (.int _)⟩
  · obtain ⟨v, rfl, r1⟩ := pr1 r
    obtain ⟨a, ns, rfl, rfl, h1⟩ := rt_frz r1
    refine ⟨_, _, rfl, .inl ⟨_, h1, rfl⟩, ?_⟩
    rw [List.length_map] at G ⊢
    exact G _ _ (Same.refl _) (.int _)
  · split at G
    · rename_i hz
      obtain ⟨v, rfl, r1⟩ := pr1 r
      rw [rt_str r1]
      exact ⟨_, _, rfl, ⟨hz, rfl⟩, G _ _ (Same.refl _) (.int _)⟩
    · exact G.elim
  · exact G.elim
theorem s_abs (K : PySem.W.Frag) : CallS K (fun xs H Q => ∃ i, xs = [.int i] ∧ Q (.int (if i < 0 then -i else i)) H) .t .s absP := by
  intro H0 O0 σ ρ H H2 xs ps Q S s r G
  unfold absP at G
  split at G
  · obtain ⟨v, rfl, r1⟩ := pr1 r
    rw [rt_int r1]; exact ⟨_, rfl, G _ _ (Same.refl _) (.int _)⟩
  · exact G.elim
theorem s_all (K : PySem.W.Frag) : CallS K (rAll K) .t .s allP := by
  intro H0 O0 σ ρ H H2 xs ps Q S s r G
  unfold allP at G
  split at G
  · split at G
    · rename_i bs hbs
      obtain ⟨v, rfl, r1⟩ := pr1 r
      rw [asBs_map hbs] at r1
      obtain ⟨a, vs, rfl, h1, r2⟩ := rt_lst r1
      rw [r2.bls] at h1
      exact ⟨a, bs, rfl, .inl (.inl h1), G _ _ (Same.refl _) (.bl _)⟩
    · exact G.elim
  · exact G.elim
theorem s_any (K : PySem.W.Frag) : CallS K (rAny K) .t .s anyP := by
  intro H0 O0 σ ρ H H2 xs ps Q S s r G
  unfold anyP at G
  split at G
  · split at G
    · rename_i bs hbs
      obtain ⟨v, rfl, r1⟩ := pr1 r
      rw [asBs_map hbs] at r1
      obtain ⟨a, vs, rfl, h1, r2⟩ := rt_lst r1
      rw [r2.bls] at h1
      exact ⟨a, bs, rfl, .inl (.inl h1), G _ _ (Same.refl _) (.bl _)⟩
    · exact G.elim
  · exact G.elim
theorem s_str (K : PySem.W.Frag) : CallS K (fun xs H Q => ∃ i, xs = [.int i] ∧ i.natAbs.log2 < 1920 ∧ Q (.str (toString i)) H) .t .s strP := by
  intro H0 O0 σ ρ H H2 xs ps Q S s r G
  unfold strP at G
  split at G
  · split at G
    · rename_i hz
      obtain ⟨v, rfl, r1⟩ := pr1 r
      rw [rt_int r1]
      exact ⟨_, rfl, hz, G _ _ (Same.refl _) (.str _)⟩
    · exact G.elim
  · exact G.elim
theorem lenP_exc (ps : List PV) (c : Str) : lenP ps ≠ .exc c := by unfold lenP; split <;> (try split) <;> exact fun z => nomatch z
theorem absP_exc (ps : List PV) (c : Str) : absP ps ≠ .exc c := by unfold absP; split <;> exact fun z => nomatch z
theorem allP_exc (ps : List PV) (c : Str) : allP ps ≠ .exc c := by unfold allP; split <;> (try split) <;> exact fun z => nomatch z
theorem anyP_exc (ps : List PV) (c : Str) : anyP ps ≠ .exc c := by unfold anyP; split <;> (try split) <;> exact fun z => nomatch z
theorem strP_exc (ps : List PV) (c : Str) : strP ps ≠ .exc c := by unfold strP; split <;> (try split) <;> exact fun z => nomatch z
variable {e : Expr} {es : List Expr} {pos p : Pos} {fA : Rho → R (List PV)} {f : Rho → R PV}
theorem e_len (mg : X.mg "len" = none) (hg : Gl X "len") (ha : AJ X W .t [e] fA) (he : starEach [e] X.env = (false, eval e X.env) :: starEach [] X.env := by rfl) : EJ X W .s (.Call (.Name "len" p) [e] [] pos) (eD lenP fA) := e_callB call_len lenP_exc (s_len _) hg mg PySem.boot_len ha (he := he)
theorem e_abs (mg : X.mg "abs" = none) (hg : Gl X "abs") (ha : AJ X W .t [e] fA) (he : starEach [e] X.env = (false, eval e X.env) :: starEach [] X.env := by rfl) : EJ X W .s (.Call (.Name "abs" p) [e] [] pos) (eD absP fA) := e_callB call_abs absP_exc (s_abs _) hg mg (by decide +kernel) ha (he := he)
theorem e_all (hc : X.calm = true) (mg : X.mg "all" = none) (hg : Gl X "all") (ha : AJ X W .t [e] fA) (he : starEach [e] X.env = (false, eval e X.env) :: starEach [] X.env := by rfl) : EJ X W .s (.Call (.Name "all" p) [e] [] pos) (eD allP fA) := e_callB (cr_all hc) allP_exc (s_all _) hg mg (by decide +kernel) ha (he := he)
theorem e_any (hc : X.calm = true) (mg : X.mg "any" = none) (hg : Gl X "any") (ha : AJ X W .t [e] fA) (he : starEach [e] X.env = (false, eval e X.env) :: starEach [] X.env := by rfl) : EJ X W .s (.Call (.Name "any" p) [e] [] pos) (eD anyP fA) := e_callB (cr_any hc) anyP_exc (s_any _) hg mg (by decide +kernel) ha (he := he)
theorem e_strI (mg : X.mg "str" = none) (hg : Gl X "str") (ha : AJ X W .t [e] fA) (he : starEach [e] X.env = (false, eval e X.env) :: starEach [] X.env := by rfl) : EJ X W .s (.Call (.Name "str" p) [e] [] pos) (eD strP fA) := e_callTy call_str_int strP_exc (s_str _) hg mg (by decide +kernel) ha (he := he)
def tyN : PV → String
  | .non => "NoneType" | .bl _ => "bool" | .int _ => "int" | .str _ => "str" | .tup _ => "tuple" | .lst _ => "list" | .frz _ => "list" | .dct => "dict" | .dt _ => "dict" | .obj _ _ _ => ""
def kitP (p : PV) (n : String) : Option Bool := match p with
  | .obj _ _ _ => if n ∈ (["int", "bool", "str", "tuple", "list", "dict"] : List String) then some false else none
  | p => kitB (tyN p) n
def isiP (n : String) (p : PV) : R PV := match kitP p n with
  | some b => .ok (.bl b)
  | none => .stuck
theorem rt_ty {K : PySem.W.Frag} {H H2 : Hp} {O0 : Addr → Prop} {σ : St} {ρ : Rho} {x : V} {p : PV} (r : RepM K O0 σ ρ .t H H2 x p) : ∃ T, TyX K H2 x T ∧ ∀ n b, kitP p n = some b → PySem.W.kitOne K T (.type n) = some b := by
  have kt : ∀ {t : String} {q : PV}, (∀ C ns fs, q ≠ .obj C ns fs) → tyN q = t → ∀ n b, kitP q n = some b → PySem.W.kitOne K (.type t) (.type n) = some b := fun {t q} hq ht n b h => by
    subst ht
    refine kit_ty ?_
    unfold kitP at h
    split at h
    · exact absurd rfl (hq _ _ _)
    · exact h
  rcases r with r | ⟨a, vs, ps, rfl, rfl, e3, e4⟩
  · cases r with
    | non => exact ⟨_, .base .non, kt (fun _ _ _ z => nomatch z) rfl⟩
    | bl b => exact ⟨_, .base (.bl b), kt (fun _ _ _ z => nomatch z) rfl⟩
    | int i => exact ⟨_, .base (.int i), kt (fun _ _ _ z => nomatch z) rfl⟩
    | str i => exact ⟨_, .base (.str i), kt (fun _ _ _ z => nomatch z) rfl⟩
    | lst h _ _ => exact ⟨_, .base (.lst h), kt (fun _ _ _ z => nomatch z) rfl⟩
    | tup h _ =>
      rcases h with ⟨h, _⟩ | ⟨o, its, n, h1, h2, _⟩
      · exact ⟨_, .base (.tup h), kt (fun _ _ _ z => nomatch z) rfl⟩
      · exact ⟨_, .kTuple h1 h2, kt (fun _ _ _ z => nomatch z) rfl⟩
    | frz h =>
      rcases h with ⟨⟨o, h⟩, _⟩ | h
      · exact ⟨_, .base (.frz h), kt (fun _ _ _ z => nomatch z) rfl⟩
      · rcases h fun _ => none with (h | ⟨_, h⟩) | ⟨o, its, n, h1, h2, _⟩
        · cases h
        · cases h
        · exact ⟨_, .kList h1 h2, kt (fun _ _ _ z => nomatch z) rfl⟩
    | dct h _ => exact ⟨_, .base (.dK h), kt (fun _ _ _ z => nomatch z) rfl⟩
    | dt h _ => exact ⟨_, .base (.dT h), kt (fun _ _ _ z => nomatch z) rfl⟩
    | obj h _ _ c _ =>
      refine ⟨_, .base (.ins h c.cl c.ha c.hn c.ht c.hm), fun n b h => ?_⟩
      unfold kitP at h
      dsimp only at h
      split at h
      · rename_i hn; cases h; exact c.kit n hn
      · cases h
  · exact ⟨_, .base (.lst e3), kt (fun _ _ _ z => nomatch z) rfl⟩
theorem e_isi {n : String} {en : Expr} (mg : X.mg "isinstance" = none) (hg : Gl X "isinstance") (ha : EJ X W .t e f) (hn : PE X en (tC (.ty n))) (he : starEach [e, en] X.env = (false, eval e X.env) :: starEach [en] X.env := by rfl) (he2 : starEach [en] X.env = (false, eval en X.env) :: starEach [] X.env := by rfl) (hpl : (backTo pos (starEach [en] X.env)).any (·.1) = false := by rfl) :
    EJ X W .s (.Call (.Name "isinstance" p) [e, en] [] pos) (e1 (isiP n) f) := by
  refine pe_imp (pe_callB call_isi hg mg PyProof.Rows.boot_isinstance (pa_cons ha (pa_cons hn pa_nil he2) he) (by decide) (by decide) he hpl) fun σ H Q ⟨H0, O0, ρ, S, G⟩ => ⟨H0, O0, ρ, S, ?_⟩
  revert G
  unfold e1
  cases f ρ with
  | stuck => exact False.elim
  | exc c => exact fun G => G
  | ok q =>
    intro G x H1 s1 r1
    rw [R.bind_ok] at G
    unfold isiP at G
    split at G
    · rename_i b hb
      obtain ⟨T, t1, t2⟩ := rt_ty r1
      exact ⟨x, .ty n, _, _, b, rfl, .ty n, t1, t2 _ _ hb, G _ _ s1 (.bl b)⟩
    · exact G.elim
end
end PL
set_option Elab.async false
set_option linter.all false
set_option maxRecDepth 100000
set_option autoImplicit false
namespace PL
open PySem PySem.Spec L2
open PyProof.Rows hiding St
def Kept (O : Addr → Prop) (H : Hp) (O' : Addr → Prop) (H' : Hp) : Prop := ∀ a o, H a = some o → ¬ O a → H' a = some o ∧ ¬ O' a
theorem Kept.refl (O : Addr → Prop) (H : Hp) : Kept O H O H := fun _ _ h n => ⟨h, n⟩
theorem Kept.trans {O O1 O2 : Addr → Prop} {H H1 H2 : Hp} (a : Kept O H O1 H1) (b : Kept O1 H1 O2 H2) : Kept O H O2 H2 := fun c o h n => b c o (a c o h n).1 (a c o h n).2
theorem Kept.same {O : Addr → Prop} {H H' : Hp} (s : Same H H') : Kept O H O H' := fun a o h n => ⟨s a o h, n⟩
structure ItOk (K : PySem.W.Frag) (J : It) (items : List PV) (O1 : Addr → Prop) (H1 : Hp) : Prop where
  go : ∀ i H O, Kept O1 H1 O H → i < items.length → J.go i H
  stop : ∀ i H O, Kept O1 H1 O H → items.length ≤ i → J.stop i H
  yld : ∀ i H O x H' p, Kept O1 H1 O H → (∀ a, O a → H a ≠ none) → items[i]? = some p → J.yld i H x H' → Same H H' ∧ Rep K H' O x p
def GotI (K : PySem.W.Frag) (mg : Str → Option Value) (W : WX) (O0 : Addr → Prop) (σ : St) (ρ : Rho) (H : Hp) (Q : It → Hp → Prop) : R (List PV) → Prop
  | .ok items => ∀ J H', Same H H' → ItOk K J items (OO O0 σ ρ) H' → Q J H'
  | .exc c => ∀ C H', Same H H' → mg c = some (.ref C) → W (.ref C) none σ H'
  | .stuck => False
def tI (K : PySem.W.Frag) (mg : Str → Option Value) (W : WX) (f : Rho → R (List PV)) : TI := fun σ H Q =>
  ∃ H0 O0 ρ, StR K H0 O0 H σ ρ ∧ GotI K mg W O0 σ ρ H Q (f ρ)
abbrev IJ (X : Cx) (W : WX) (tg it : Expr) (f : Rho → R (List PV)) : Prop := PI X tg it (tI X.K X.mg W f)
section
variable {X : Cx} {W : WX} {e e' e'' tg : Expr} {pos p : Pos} {f : Rho → R PV} {fA : Rho → R (List PV)} {K : PySem.W.Frag}
theorem pi_imp {t t' : TI} (h : PI X tg e t) (q : ∀ σ H Q, t' σ H Q → t σ H Q) : PI X tg e t' := ⟨fun pins s σ H Q I hw => h.run pins s σ H Q I (q σ H Q hw)⟩
/-- the items of a list, a tuple -/
def asL : PV → R (List PV)
  | .lst l | .frz l => .ok l
  | _ => .stuck
def asS : PV → R (List PV)
  | .lst l | .frz l | .tup l => .ok l
  | _ => .stuck
def iRv (f : Rho → R PV) : Rho → R (List PV) := fun ρ => (f ρ).bind fun p => (asS p).bind fun l => .ok l.reverse
theorem kept_reps {H H1 : Hp} {O O1 : Addr → Prop} (k : Kept O1 H1 O H) {v : V} {p : PV} (r : Rep K H1 O1 v p) : Rep K H O v p := r.mono k
theorem lst_it {H1 : Hp} {O1 : Addr → Prop} {a : Addr} {l : List PV} (r : Rep K H1 O1 (.ref a) (.lst l)) : ItOk K (Itl K a) l O1 H1 ∧ ∃ xs, SqL K H1 a xs := by
  cases r with
  | @lst _ vs _ h n r =>
    refine ⟨⟨fun i H O k hi => ?_, fun i H O k hi => ⟨vs, .inl (.inl (k _ _ h n).1), by rw [r.length]; exact hi⟩, fun i H O x H' p k _ hp hy => ?_⟩, vs, .inl (.inl h)⟩
    · obtain ⟨v, hv, _⟩ := r.get (List.getElem?_eq_getElem hi)
      exact ⟨vs, v, .inl (.inl (k _ _ h n).1), hv⟩
    · obtain ⟨rfl, hx⟩ := hy
      obtain ⟨q, hq, rq⟩ := r.get' (hx vs (.inl (.inl (k _ _ h n).1)))
      rw [hp] at hq; cases hq
      exact ⟨Same.refl _, kept_reps k rq⟩
theorem frz_it {H1 : Hp} {O1 : Addr → Prop} {a : Addr} {l : List PV} (r : Rep K H1 O1 (.ref a) (.frz l)) : ItOk K (Itl K a) l O1 H1 ∧ ∃ xs, SqL K H1 a xs := by
  generalize hl : PV.frz l = q at r
  cases r with
  | @frz _ ns h =>
    cases hl
    have sq : ∀ H O, Kept O1 H1 O H → SqL K H a (ns.map V.int) := fun H O k => by
      rcases h with ⟨⟨o, h⟩, n⟩ | h
      · exact .inl (.inr ⟨o, (k _ _ h n).1⟩)
      · exact h _
    refine ⟨⟨fun i H O k hi => ?_, fun i H O k hi => ⟨_, sq H O k, by simpa using hi⟩, fun i H O x H' p k _ hp hy => ?_⟩, _, sq _ _ (Kept.refl _ _)⟩
    · rw [List.length_map] at hi
      exact ⟨_, .int ns[i], sq H O k, by rw [List.getElem?_map, List.getElem?_eq_getElem hi]; rfl⟩
    · obtain ⟨rfl, hx⟩ := hy
      have hx := hx _ (sq _ O k)
      rw [List.getElem?_map] at hp hx
      cases hn : ns[i]? with
      | none => rw [hn] at hp; cases hp
      | some n =>
        rw [hn] at hp hx
        cases hp; cases hx
        exact ⟨Same.refl _, .int n⟩
  | _ => cases hl
theorem tup_it {H1 : Hp} {O1 : Addr → Prop} {a : Addr} {l : List PV} (r : Rep K H1 O1 (.ref a) (.tup l)) : ItOk K (Itt K a) l O1 H1 ∧ ∃ xs, SqT K H1 a xs := by
  cases r with
  | @tup _ vs _ h r =>
    have sq : ∀ H O, Kept O1 H1 O H → SqT K H a vs := fun H O k => by
      rcases h with ⟨h, n⟩ | h
      · exact .inl (.inl (k _ _ h n).1)
      · exact h.sq
    refine ⟨⟨fun i H O k hi => ?_, fun i H O k hi => ⟨vs, sq H O k, by rw [r.length]; exact hi⟩, fun i H O x H' p k _ hp hy => ?_⟩, vs, sq _ _ (Kept.refl _ _)⟩
    · obtain ⟨v, hv, _⟩ := r.get (List.getElem?_eq_getElem hi)
      exact ⟨vs, v, sq H O k, hv⟩
    · obtain ⟨rfl, hx⟩ := hy
      obtain ⟨q, hq, rq⟩ := r.get' (hx vs (sq _ O k))
      rw [hp] at hq; cases hq
      exact ⟨Same.refl _, kept_reps k rq⟩
/-- a PI by either of two readings -/
theorem pi_or {w1 w2 : TI} (h1 : PI X tg e w1) (h2 : PI X tg e w2) : PI X tg e (fun σ H R => w1 σ H R ∨ w2 σ H R) := ⟨fun pins s σ H R I hw => by
  rcases hw with hw | hw
  · exact h1.run pins s σ H R I hw
  · exact h2.run pins s σ H R I hw⟩
def iS (f : Rho → R PV) : Rho → R (List PV) := fun ρ => (f ρ).bind asS
theorem ref_of {H1 : Hp} {O1 : Addr → Prop} {v : V} {p : PV} (r : Rep K H1 O1 v p) (h : (∃ l, p = .lst l) ∨ (∃ l, p = .frz l) ∨ ∃ l, p = .tup l) : ∃ a, v = .ref a := by
  rcases h with ⟨l, rfl⟩ | ⟨l, rfl⟩ | ⟨l, rfl⟩
  · cases r; exact ⟨_, rfl⟩
  · generalize hl : PV.frz l = q at r
    cases r with
    | frz h => exact ⟨_, rfl⟩
    | _ => cases hl
  · cases r; exact ⟨_, rfl⟩
/-- a list or a tuple, walked -/
theorem i_seq (he : EJ X W .s e f) : IJ X W tg e (iS f) := by
  refine pi_imp (pi_or (L2.pi_list he) (L2.pi_tup he)) fun σ H Q ⟨H0, O0, ρ, S, G⟩ => ?_
  revert G
  unfold iS
  cases hf : f ρ with
  | stuck => exact False.elim
  | exc c => exact fun G => .inl ⟨H0, O0, ρ, S, by rw [hf]; exact G⟩
  | ok p =>
    cases p with
    | lst l =>
      intro G
      refine .inl ⟨H0, O0, ρ, S, ?_⟩
      rw [hf]
      intro v H1 s1 r1
      obtain ⟨a, rfl⟩ := ref_of r1 (.inl ⟨l, rfl⟩)
      obtain ⟨h1, h2⟩ := lst_it r1
      exact ⟨a, rfl, h2, G _ _ s1 h1⟩
    | frz l =>
      intro G
      refine .inl ⟨H0, O0, ρ, S, ?_⟩
      rw [hf]
      intro v H1 s1 r1
      obtain ⟨a, rfl⟩ := ref_of r1 (.inr (.inl ⟨l, rfl⟩))
      obtain ⟨h1, h2⟩ := frz_it r1
      exact ⟨a, rfl, h2, G _ _ s1 h1⟩
    | tup l =>
      intro G
      refine .inr ⟨H0, O0, ρ, S, ?_⟩
      rw [hf]
      intro v H1 s1 r1
      obtain ⟨a, rfl⟩ := ref_of r1 (.inr (.inr ⟨l, rfl⟩))
      obtain ⟨h1, h2⟩ := tup_it r1
      exact ⟨a, rfl, h2, G _ _ s1 h1⟩
    | _ => exact False.elim
def iR (g : List PV → R (List PV)) (f : Rho → R (List PV)) : Rho → R (List PV) := fun ρ => (f ρ).bind g
end
def GotG (K : PySem.W.Frag) (H0 : Hp) (O0 : Addr → Prop) (H : Hp) (ts : List Nat) (σ : St) (ρ : Rho) (Q : St → Hp → Prop) : Option Rho → Prop
  | some ρ' => ∀ σ', StR K H0 O0 H σ' ρ' → (∀ a, OO O0 σ' ρ' a → OO O0 σ ρ a) → σ'.length = σ.length → (∀ (i : Nat), i ∉ ts → σ'[i]? = σ[i]? ∧ ρ'[i]? = ρ[i]?) → Q σ' H
  | none => False
def tG (K : PySem.W.Frag) (ts : List Nat) (h : PV → Rho → Option Rho) : TG := fun v σ H Q => ∃ H0 O0 ρ p, StR K H0 O0 H σ ρ ∧ Rep K H (OO O0 σ ρ) v p ∧ GotG K H0 O0 H ts σ ρ Q (h p ρ)
abbrev GJ (X : Cx) (tg : Expr) (ts : List Nat) (h : PV → Rho → Option Rho) : Prop := PG X tg (tG X.K ts h)
theorem pg_imp {X : Cx} {tg : Expr} {t t' : TG} (h : PG X tg t) (q : ∀ v σ H Q, t' v σ H Q → t v σ H Q) : PG X tg t' := ⟨fun pins s σ H v u Q I r hw => h.run pins s σ H v u Q I r (q v σ H Q hw)⟩
theorem pgs_imp {X : Cx} {tg : List Expr} {t t' : TGs} (h : PGs X tg t) (q : ∀ v σ H Q, t' v σ H Q → t v σ H Q) : PGs X tg t' := ⟨fun pins s σ H v u Q I r hw => h.run pins s σ H v u Q I r (q v σ H Q hw)⟩
def gN (i : Nat) : PV → Rho → Option Rho := fun p ρ => some (ρ.set i (.val p))
theorem g_name {X : Cx} {tg : Expr} {i : Nat} (h : PG X tg (gName i)) : GJ X tg [i] (gN i) := by
  refine pg_imp h fun v σ H Q ⟨H0, O0, ρ, p, S, r, G⟩ => ?_
  exact G _ (S.set (s := .val p) (fun _ z => nomatch z) (fun q z => by cases z; exact ⟨v, rfl, r⟩)) (fun a z => OO.set_val (s := .val p) (fun _ z => nomatch z) z) (List.length_set ..) fun j hj => have n : i ≠ j := fun e => hj (by rw [e]; exact List.mem_cons_self); ⟨List.getElem?_set_ne n, List.getElem?_set_ne n⟩
/-- several targets -/
def tGs (K : PySem.W.Frag) (ts : List Nat) (h : List PV → Rho → Option Rho) : TGs := fun vs σ H Q => ∃ H0 O0 ρ ps, StR K H0 O0 H σ ρ ∧ Reps K H (OO O0 σ ρ) vs ps ∧ GotG K H0 O0 H ts σ ρ Q (h ps ρ)
abbrev GJs (X : Cx) (tg : List Expr) (ts : List Nat) (h : List PV → Rho → Option Rho) : Prop := PGs X tg (tGs X.K ts h)
def gsNil : List PV → Rho → Option Rho
  | [], ρ => some ρ
  | _, _ => none
def gsCons (g : PV → Rho → Option Rho) (h : List PV → Rho → Option Rho) : List PV → Rho → Option Rho
  | p :: ps, ρ => (g p ρ).bind (h ps)
  | [], _ => none
section
variable {X : Cx} {e : Expr} {es : List Expr} {g : PV → Rho → Option Rho} {h : List PV → Rho → Option Rho} {pos : Pos} {ts us : List Nat}
theorem gs_nil : GJs X [] [] gsNil := by
  refine pgs_imp pgs_nil fun vs σ H Q ⟨H0, O0, ρ, ps, S, r, G⟩ => ?_
  cases ps with
  | nil => cases r; exact ⟨rfl, G σ S (fun _ z => z) rfl fun _ _ => ⟨rfl, rfl⟩⟩
  | cons p ps => exact G.elim
theorem gs_cons (h1 : GJ X e ts g) (h2 : GJs X es us h) (hs : (assignEach (e :: es) X.env).map (·.2) = assign e X.env :: (assignEach es X.env).map (·.2) := by rfl) : GJs X (e :: es) (ts ++ us) (gsCons g h) := by
  refine pgs_imp (pgs_cons h1 h2 hs) fun vs σ H Q ⟨H0, O0, ρ, ps, S, r, G⟩ => ?_
  cases r with
  | nil => exact G.elim
  | @cons v vs p ps r1 r2 =>
    refine ⟨v, vs, rfl, H0, O0, ρ, p, S, r1, ?_⟩
    have G' : GotG X.K H0 O0 H (ts ++ us) σ ρ Q ((g p ρ).bind (h ps)) := G
    revert G'
    cases g p ρ with
    | none => exact False.elim
    | some ρ1 =>
      intro G' σ1 S1 l1 e1 k1
      exact ⟨H0, O0, ρ1, ps, S1, r2.less l1, by
        revert G'
        rw [Option.bind_some]
        cases h ps ρ1 with
        | none => exact fun G => G
        | some ρ2 => exact fun G' σ2 S2 l2 e2 k2 => G' σ2 S2 (fun a z => l1 a (l2 a z)) (e2.trans e1) fun i hi => have a := k2 i fun z => hi (List.mem_append_right _ z); have b := k1 i fun z => hi (List.mem_append_left _ z); ⟨a.1.trans b.1, a.2.trans b.2⟩⟩
theorem draw_l {prog : Program} {w : World} {A : Around} {E : Value → Shared → Prop} {it l : Addr} {xs : Array Value} (ne : l ≠ it) : ∀ (k j : Nat) (u : Shared) (R : List Value → Shared → Prop), u.heap.IsListIter it l j → u.heap.IsList l xs → j + k ≤ xs.size →
    (∀ g, g.IsListIter it l (j + k) → Heap.SameBut it u.heap g → R ((xs.toList.drop j).take k) { u with heap := g }) → wpAny (model prog w) A (draw (.ref it) k) R E u
  | 0, j, u, R, _, _, _, q => wpAny_pure (by simpa using q u.heap (by simpa) (Heap.SameBut.refl ..))
  | k + 1, j, u, R, hi, hl, hs, q => by
    have lt : j < xs.size := by omega
    show wpAny (model prog w) A (pyNext (.ref it) >>= _) R E u
    refine wpAny_bind (wpAny_pyNext_list_item hi hl (x := xs[j]) (by simp [lt]) fun g1 i1 b1 => ?_)
    refine wpAny_bind (wpAny_holding (draw_l ne k (j + 1) _ _ i1 (hl.extBut b1.extBut ne) (by omega) fun g2 i2 b2 => wpAny_pure ?_))
    have z := q g2 (by rw [show j + (k + 1) = j + 1 + k by omega]; exact i2) (b1.trans b2)
    rw [show xs.toList.drop j = xs[j] :: xs.toList.drop (j + 1) by simp [List.drop_eq_getElem_cons, lt], List.take_succ_cons] at z
    exact z
theorem unp_l {prog : Program} {w : World} {A : Around} {E : Value → Shared → Prop} {u : Shared} {l : Addr} {xs : Array Value} {R : List Value → Shared → Prop} (hh : A.handled = none) (hl : u.heap.IsList l xs)
    (q : ∀ g, Heap.ExtBut u.heap.objs.size u.heap g → R xs.toList { u with heap := g }) : wpAny (model prog w) A (unpackItems (.ref l) xs.size none) R E u := by
  have ne : l ≠ u.heap.objs.size := by obtain ⟨o, ho, _⟩ := hl; exact Nat.ne_of_lt (Heap.lt_size ho)
  unfold unpackItems
  refine wpAny_bind ?_
  unfold notIterableAtAll
  refine wpAny_bind (wpAny_specialOf hl.typeIs slot_list_iter.lookup (wpAny_pure ?_))
  simp only [Bool.false_eq_true, if_false]
  refine wpAny_bind (wpAny_holding (wpAny_pyIter_list hl ?_))
  have h1 := hl.push { cls := .type "list_iterator", data := .fields #[.ref l, .int 0 0] }
  refine wpAny_bind (wpAny_holding (draw_l ne xs.size 0 _ _ ⟨_, Heap.get?_push_size _ rfl, rfl, rfl⟩ h1 (by omega) fun g1 i1 b1 => ?_))
  rw [show List.take xs.size (List.drop 0 xs.toList) = xs.toList by rw [List.drop_zero]; exact List.take_of_length_le (by simp)]
  rw [if_neg (by simp)]
  refine wpAny_bind (wpAny_holding (wpAny_pyNext_list_end hh i1 (h1.extBut b1.extBut ne) (by simp) fun g2 e2 => ?_))
  simp only [Option.isSome_none, Bool.false_eq_true, if_false]
  exact wpAny_pure (q g2 fun b o hb e => e2 b o hb (b1.extBut b o hb (Heap.get?_push_of_some _ e)))
def gSq (K : PySem.W.Frag) (n : Nat) (t : TGs) : TG := fun v σ H Q => ∃ a xs, v = .ref a ∧ (SqT K H a xs ∨ SqL K H a xs) ∧ xs.length = n ∧ t xs σ H Q
theorem pg_sq {X : Cx} {es : List Expr} {k n : Nat} {pos : Pos} {t : TGs} (hc : X.calm = true) (h : PGs X es t) (hn : (assignEach es X.env).length = n := by rfl) (hst : (assignEach es X.env).findIdx? (·.1) = none := by rfl) : PG X (.Tuple es k pos) (gSq X.K n t) := by
  refine ⟨fun pins s σ H v u Q I r g => ?_⟩
  obtain ⟨a, xs, e, hq | hq, hl, hw⟩ := g
  · exact (pg_tup hc h hn hst).run pins s σ H v u Q I r ⟨a, xs, e, hq, hl, hw⟩
  · subst e
    cases r
    obtain ⟨its, rv, pl, hz⟩ := I.list hq
    rw [assign_Tuple]
    refine wpAny_bind (wpAny_standAt ?_)
    unfold unpack
    have hsz : (assignEach es X.env).length = its.toArray.size := by simp [hn, ← hl, rv.length]
    rw [hsz, hst]
    refine wpAny_bind (wpAny_holding (unp_l (I.ok.hd hc) pl.isList fun g eb => ?_))
    have J : Inv X pins σ H { s with heap := g } := I.kept (t' := s.toks) fun b o e => eb b o (Nat.ne_of_lt (Heap.lt_size e)) e
    exact h.run pins _ σ H xs _ Q J (by simpa using rv) hw
def gT (h : List PV → Rho → Option Rho) : PV → Rho → Option Rho
  | .tup ps, ρ => h ps ρ
  | .lst ps, ρ => h ps ρ
  | _, _ => none
theorem g_tup {k n : Nat} (hc : X.calm = true) (h1 : GJs X es ts h) (hl : ∀ ps ρ ρ', h ps ρ = some ρ' → ps.length = n) (hn : (assignEach es X.env).length = n := by rfl) (hst : (assignEach es X.env).findIdx? (·.1) = none := by rfl) : GJ X (.Tuple es k pos) ts (gT h) := by
  refine pg_imp (pg_sq hc h1 hn hst) fun v σ H Q ⟨H0, O0, ρ, p, S, r, G⟩ => ?_
  have len : ∀ (ps : List PV), GotG X.K H0 O0 H ts σ ρ Q (h ps ρ) → ps.length = n := fun ps G' => by
    revert G'
    cases hh : h ps ρ with
    | none => exact False.elim
    | some ρ' => exact fun _ => hl ps ρ ρ' hh
  cases p with
  | tup ps =>
    cases r with
    | @tup a vs _ ha r => exact ⟨a, vs, rfl, .inl (sqT_of ha), by rw [r.length]; exact len ps G, H0, O0, ρ, ps, S, r, G⟩
  | lst ps =>
    cases r with
    | @lst a vs _ ha hn r => exact ⟨a, vs, rfl, .inr (.inl (.inl ha)), by rw [r.length]; exact len ps G, H0, O0, ρ, ps, S, r, G⟩
  | _ => exact G.elim
theorem gs_len : ∀ {n : Nat} {g : PV → Rho → Option Rho} {h : List PV → Rho → Option Rho}, (∀ ps ρ ρ', h ps ρ = some ρ' → ps.length = n) → ∀ ps ρ ρ', gsCons g h ps ρ = some ρ' → ps.length = n + 1 := by
  intro n g h hl ps ρ ρ' e
  cases ps with
  | nil => cases e
  | cons p ps =>
    have e' : (g p ρ).bind (h ps) = some ρ' := e
    cases hg : g p ρ with
    | none => rw [hg] at e'; cases e'
    | some ρ1 =>
      rw [hg, Option.bind_some] at e'
      rw [List.length_cons, hl ps ρ1 ρ' e']
theorem gs_len0 : ∀ ps ρ ρ', gsNil ps ρ = some ρ' → ps.length = 0 := by
  intro ps ρ ρ' e
  cases ps with
  | nil => rfl
  | cons p ps => cases e
end
end PL
set_option Elab.async false
set_option linter.all false
set_option maxRecDepth 100000
set_option autoImplicit false
namespace PL
open PySem PySem.Spec L2
open PyProof.Rows hiding St
def wipeR (ρ : Rho) : List Nat → Rho
  | [] => ρ
  | v :: vs => (wipeR ρ vs).set v .un
def notOwn (ρ : Rho) (v : Nat) : Bool := match ρ[v]? with
  | some (.own _) => false
  | _ => true
theorem wipe_get (σ : St) : ∀ (vs : List Nat) (i : Nat), (wipe σ vs)[i]? = if i ∈ vs then (if i < σ.length then some none else none) else σ[i]?
  | [], i => by simp [wipe]
  | v :: vs, i => by
    unfold wipe
    by_cases e : v = i
    · subst e
      rw [if_pos List.mem_cons_self]
      by_cases h : v < σ.length
      · rw [if_pos h, List.getElem?_set_self (by rw [wipe_length]; exact h)]
      · rw [if_neg h, List.getElem?_eq_none (by rw [List.length_set, wipe_length]; omega)]
    · rw [List.getElem?_set_ne e, wipe_get σ vs i]
      have : i ∈ v :: vs ↔ i ∈ vs := by
        rw [List.mem_cons]
        exact ⟨fun z => z.elim (fun z => absurd z.symm e) id, .inr⟩
      simp only [this]
theorem wipe_back {σ σ2 : St} {vs : List Nat} (hl : σ2.length = (wipe σ vs).length) (h : ∀ (i : Nat), i ∉ vs → σ2[i]? = (wipe σ vs)[i]?) : wipe σ2 vs = wipe σ vs := by
  refine List.ext_getElem? fun i => ?_
  rw [wipe_get σ2 vs i]
  by_cases hi : i ∈ vs
  · rw [if_pos hi, hl, wipe_length, wipe_get σ vs i, if_pos hi]
  · rw [if_neg hi, h i hi]
theorem wipe_st {K : PySem.W.Frag} {H0 H : Hp} {O0 : Addr → Prop} {σ : St} {ρ : Rho} (S : StR K H0 O0 H σ ρ) : ∀ vs : List Nat, StR K H0 O0 H (wipe σ vs) (wipeR ρ vs) ∧ ∀ a, OO O0 (wipe σ vs) (wipeR ρ vs) a → OO O0 σ ρ a
  | [] => ⟨S, fun _ z => z⟩
  | v :: vs => by
    obtain ⟨S1, l1⟩ := wipe_st S vs
    exact ⟨S1.set (s := .un) (fun _ z => nomatch z) (fun _ z => nomatch z), fun a z => l1 a (OO.set_val (s := .un) (fun _ z => nomatch z) z)⟩
theorem wipeR_get (ρ : Rho) : ∀ (vs : List Nat) (i : Nat), i ∉ vs → (wipeR ρ vs)[i]? = ρ[i]?
  | [], i, _ => rfl
  | v :: vs, i, h => by
    rw [List.mem_cons, not_or] at h
    unfold wipeR
    rw [List.getElem?_set_ne (Ne.symm h.1), wipeR_get ρ vs i h.2]
theorem wipe_oo {O0 : Addr → Prop} {σ : St} {ρ : Rho} {vs : List Nat} (hn : vs.all (notOwn ρ) = true) {a : Addr} (h : OO O0 σ ρ a) : OO O0 (wipe σ vs) (wipeR ρ vs) a := by
  rcases h with h | ⟨i, ps, h1, h2⟩
  · exact .inl h
  · have hi : i ∉ vs := fun hi => by
      have := List.all_eq_true.mp hn i hi
      unfold notOwn at this
      rw [h1] at this
      cases this
    exact .inr ⟨i, ps, by rw [wipeR_get ρ vs i hi]; exact h1, by rw [wipe_get, if_neg hi]; exact h2⟩
/-- what the turns make of the items -/
def lcGo (tgt : PV → Rho → Option Rho) (test : Rho → R Bool) (elt : Rho → R PV) (ρ : Rho) : List PV → R (List PV)
  | [] => .ok []
  | p :: ps => match tgt p ρ with
    | none => .stuck
    | some ρ1 => match test ρ1 with
      | .ok true => (match elt ρ1 with
        | .ok q => (match lcGo tgt test elt ρ ps with
          | .ok qs => .ok (q :: qs)
          | _ => .stuck)
        | _ => .stuck)
      | .ok false => lcGo tgt test elt ρ ps
      | _ => .stuck
def eLc (vs : List Nat) (it : Rho → R (List PV)) (tgt : PV → Rho → Option Rho) (test : Rho → R Bool) (elt : Rho → R PV) : Rho → R PV := fun ρ =>
  if vs.all (notOwn ρ) = true then (it ρ).bind fun items => if items.length ≤ sizeLine then (match lcGo tgt test elt (wipeR ρ vs) items with
    | .ok qs => .ok (.lst qs)
    | _ => .stuck) else .stuck
  else .stuck
abbrev CJ (X : Cx) (W : WX) (ifs : List Expr) (f : Rho → R Bool) : Prop := PTs X ifs (tT X.K X.mg W f)
def cYes : Rho → R Bool := fun _ => .ok true
abbrev WF : WX := fun _ _ _ _ => False
section
variable {X : Cx} {W : WX} {e tg it : Expr} {pos : Pos} {f g h : Rho → R PV}
theorem c_nil : CJ X W [] cYes := by
  refine ⟨fun pins s σ H Q I ⟨H0, O0, ρ, S, G⟩ => pts_nil.run pins s σ H Q I (G H (Same.refl H))⟩
theorem bump {K : PySem.W.Frag} {H0 H : Hp} {O0 : Addr → Prop} {σ : St} {ρ : Rho} {D : Addr} {o : HO} (S : StR K H0 O0 H σ ρ) (hD : O0 D) (h0 : H0 D = none) {us : List V} (hl : H D = some (.lst us)) : StR K H0 O0 (upd H D o) σ ρ := by
  have k : ∀ a u, H a = some u → ¬ OO O0 σ ρ a → upd H D o a = some u ∧ ¬ OO O0 σ ρ a := fun a u h n => ⟨by rw [upd_ne (fun z => n (by rw [z]; exact .inl hD))]; exact h, n⟩
  refine ⟨S.len, fun b x h => by rw [upd_ne (fun z => by rw [z, h0] at h; cases h)]; exact S.same b x h, fun a h => ?_, fun i ps h => ?_, S.dis, fun i p h => ?_, S.exs, dds_later S.dds fun a l e => by rw [upd_ne (fun z => by rw [z, hl] at e; cases e)]; exact e⟩
  · by_cases e : a = D
    · rw [e, upd_same]; exact fun z => nomatch z
    · rw [upd_ne e]; exact S.all0 a h
  · obtain ⟨a, vs, e1, e2, e3, e4, e5⟩ := S.own i ps h
    exact ⟨a, vs, e1, by rw [upd_ne (fun z => e4 (by rw [z]; exact hD))]; exact e2, e3, e4, e5.mono k⟩
  · obtain ⟨v, e1, e2⟩ := S.val i p h
    exact ⟨v, e1, e2.mono k⟩
/-- another address is forbidden: one that is new -/
theorem forbid {K : PySem.W.Frag} {H0 H : Hp} {O0 : Addr → Prop} {σ : St} {ρ : Rho} {D : Addr} {o : HO} (S : StR K H0 O0 H σ ρ) (hD : H D = none) : StR K H0 (fun b => O0 b ∨ b = D) (upd H D o) σ ρ := by
  have oo : ∀ a, OO (fun b => O0 b ∨ b = D) σ ρ a → OO O0 σ ρ a ∨ a = D := fun a z => by
    rcases z with (z | z) | z
    · exact .inl (.inl z)
    · exact .inr z
    · exact .inl (.inr z)
  have k : ∀ a u, H a = some u → ¬ OO O0 σ ρ a → upd H D o a = some u ∧ ¬ OO (fun b => O0 b ∨ b = D) σ ρ a := fun a u h n => ⟨same_new hD a u h, fun z => (oo a z).elim n (ne_of_none h hD)⟩
  refine ⟨S.len, fun b x h => same_new hD b x (S.same b x h), fun a h => ?_, fun i ps h => ?_, S.dis, fun i p h => ?_, S.exs, fun i a l e => by
    obtain ⟨e1, e2, e3, e4⟩ := S.dds i a l e
    exact ⟨e1, same_new hD _ _ e2, .inl e3, e4⟩⟩
  · rcases h with h | h
    · cases q : H a with
      | none => exact absurd q (S.all0 a h)
      | some u => rw [same_new hD a u q]; exact fun z => nomatch z
    · rw [h, upd_same]; exact fun z => nomatch z
  · obtain ⟨a, vs, e1, e2, e3, e4, e5⟩ := S.own i ps h
    exact ⟨a, vs, e1, same_new hD _ _ e2, e3, fun z => z.elim e4 (ne_of_none e2 hD), e5.mono k⟩
  · obtain ⟨v, e1, e2⟩ := S.val i p h
    exact ⟨v, e1, e2.mono k⟩
theorem lc_run {wi : Rho → R (List PV)} {tgt : PV → Rho → Option Rho} {test : Rho → R Bool} {elt : Rho → R PV} {vs ts : List Nat} (hts : ∀ i ∈ ts, i ∈ vs) {K : PySem.W.Frag} {mg : Str → Option Value} :
    ∀ σ H Q, tE K mg W .f (eLc vs wi tgt test elt) σ H Q → tLc (tI K mg W wi) (tG K ts tgt) (tT K mg WF test) (tE K mg WF .s elt) vs σ H Q := by
  intro σ H Q ⟨H0, O0, ρ, S, G⟩
  refine ⟨H0, O0, ρ, S, ?_⟩
  revert G
  unfold eLc
  split
  · rename_i hn
    cases wi ρ with
    | stuck => exact False.elim
    | exc c => exact fun G => G
    | ok items =>
      rw [R.bind_ok]
      split
      · rename_i hz
        intro G J H1 s1 ok D hD
        cases hq : lcGo tgt test elt (wipeR ρ vs) items with
        | stuck => rw [hq] at G; exact G.elim
        | exc c => rw [hq] at G; exact absurd G (fun G => by exact (show False from G))
        | ok qs =>
          rw [hq] at G
          have S1 := S.step s1
          obtain ⟨S2, l2⟩ := wipe_st S1 vs
          have hH0 : H0 D = none := S1.same.free hD
          have S3 : StR K H0 (fun b => O0 b ∨ b = D) (upd H1 D (.lst [])) (wipe σ vs) (wipeR ρ vs) := forbid S2 hD
          have OD : OO (fun b => O0 b ∨ b = D) (wipe σ vs) (wipeR ρ vs) D := .inl (.inr rfl)
          have oo : ∀ a, OO (fun b => O0 b ∨ b = D) (wipe σ vs) (wipeR ρ vs) a → OO O0 σ ρ a ∨ a = D := fun a z => by
            rcases z with (z | z) | z
            · exact .inl (.inl z)
            · exact .inr z
            · exact .inl (l2 a (.inr z))
          refine ⟨fun i m Hc => m = items.length - i ∧ i ≤ items.length ∧ Same H1 Hc ∧ StR K H0 (fun b => O0 b ∨ b = D) Hc (wipe σ vs) (wipeR ρ vs) ∧
              ∃ ws ps rs, Hc D = some (.lst ws) ∧ Reps K Hc (OO (fun b => O0 b ∨ b = D) (wipe σ vs) (wipeR ρ vs)) ws ps ∧ ps.length ≤ i ∧ lcGo tgt test elt (wipeR ρ vs) (items.drop i) = .ok rs ∧ qs = ps ++ rs,
            ⟨items.length, by simp, Nat.zero_le _, same_new hD, S3, [], [], qs, upd_same, .nil, Nat.zero_le _, by rw [List.drop_zero]; exact hq, rfl⟩, ?_⟩
          rintro i m Hc ⟨rfl, hi, sc, Sc, ws, ps, rs, hDc, rc, hpl, hgo, hqs⟩
          have kept : Kept (OO O0 σ ρ) H1 (OO (fun b => O0 b ∨ b = D) (wipe σ vs) (wipeR ρ vs)) Hc := fun a o h n => ⟨sc a o h, fun z => (oo a z).elim n (ne_of_none h hD)⟩
          have alloc : ∀ a, OO (fun b => O0 b ∨ b = D) (wipe σ vs) (wipeR ρ vs) a → Hc a ≠ none := fun a z => Sc.there z
          by_cases hlt : i < items.length
          · refine .inr ⟨ok.go i Hc _ kept hlt, _, fun H' n => ⟨items.length - (i + 1), by omega, rfl, hlt, n⟩, fun x Hy hy => ?_⟩
            have hg : items[i]? = some items[i] := List.getElem?_eq_getElem hlt
            obtain ⟨sy, ry⟩ := ok.yld i Hc _ x Hy _ kept alloc hg hy
            have hdr : items.drop i = items[i] :: items.drop (i + 1) := List.drop_eq_getElem_cons hlt
            rw [hdr] at hgo
            refine ⟨H0, _, wipeR ρ vs, items[i], Sc.step sy, ry, ?_⟩
            unfold lcGo at hgo
            cases ht : tgt items[i] (wipeR ρ vs) with
            | none => rw [ht] at hgo; cases hgo
            | some ρ1 =>
              rw [ht] at hgo
              intro σ2 Sg lg eg kg
              refine ⟨wipe_back eg fun j hj => (kg j fun z => hj (hts j z)).1, H0, _, ρ1, Sg, ?_⟩
              have hgo : (match test ρ1 with
                | .ok true => (match elt ρ1 with
                  | .ok q => (match lcGo tgt test elt (wipeR ρ vs) (items.drop (i + 1)) with
                    | .ok qs => .ok (q :: qs)
                    | _ => .stuck)
                  | _ => .stuck)
                | .ok false => lcGo tgt test elt (wipeR ρ vs) (items.drop (i + 1))
                | _ => .stuck) = (.ok rs : R (List PV)) := hgo
              cases hte : test ρ1 with
              | stuck => rw [hte] at hgo; cases hgo
              | exc c => rw [hte] at hgo; cases hgo
              | ok b =>
                rw [hte] at hgo
                intro H3 s3
                cases b with
                | false =>
                  rw [if_neg Bool.false_ne_true]
                  have s13 := (sc.trans sy).trans s3
                  exact ⟨s13, Sc.step (sy.trans s3), ws, ps, rs, (sy.trans s3) _ _ hDc, rc.same (sy.trans s3), by omega, hgo, hqs⟩
                | true =>
                  rw [if_pos rfl]
                  refine ⟨H0, _, ρ1, Sg.step s3, ?_⟩
                  have hgo : (match elt ρ1 with
                    | .ok q => (match lcGo tgt test elt (wipeR ρ vs) (items.drop (i + 1)) with
                      | .ok qs => .ok (q :: qs)
                      | _ => .stuck)
                    | _ => .stuck) = (.ok rs : R (List PV)) := hgo
                  cases hel : elt ρ1 with
                  | stuck => rw [hel] at hgo; cases hgo
                  | exc c => rw [hel] at hgo; cases hgo
                  | ok q =>
                    rw [hel] at hgo
                    have hgo : (match lcGo tgt test elt (wipeR ρ vs) (items.drop (i + 1)) with
                      | .ok qs => .ok (q :: qs)
                      | _ => .stuck) = (.ok rs : R (List PV)) := hgo
                    cases hre : lcGo tgt test elt (wipeR ρ vs) (items.drop (i + 1)) with
                    | stuck => rw [hre] at hgo; cases hgo
                    | exc c => rw [hre] at hgo; cases hgo
                    | ok rs' =>
                      rw [hre] at hgo
                      cases hgo
                      intro y H4 s4 r4
                      have s34 := (sy.trans s3).trans s4
                      have r4 : Rep K H4 (OO (fun b => O0 b ∨ b = D) σ2 ρ1) y q := r4
                      refine ⟨ws, s34 _ _ hDc, by rw [rc.length]; omega, ?_⟩
                      have nD : ∀ {b : Addr} {o : HO} {O : Addr → Prop}, O D → H4 b = some o → ¬ O b → upd H4 D (.lst (ws ++ [y])) b = some o ∧ ¬ O b := fun {b o O} hO h n => ⟨by rw [upd_ne (fun z => n (by rw [z]; exact hO))]; exact h, n⟩
                      refine ⟨fun b o h => ?_, bump (Sc.step s34) (.inr rfl) hH0 (s34 _ _ hDc), ws ++ [y], ps ++ [q], rs', upd_same, ?_, by rw [List.length_append]; simp; omega, rfl, by rw [hqs, List.append_assoc]; rfl⟩
                      · rw [upd_ne (ne_of_none h hD)]; exact s34 _ _ (sc _ _ h)
                      · refine Reps.append ((rc.same s34).mono fun b o h n => nD OD h n) (.cons ?_ .nil)
                        refine r4.mono fun b o h n => ?_
                        have hb : b ≠ D := fun z => n (by rw [z]; exact .inl (.inr rfl))
                        refine ⟨by rw [upd_ne hb]; exact h, fun z => ?_⟩
                        rcases z with z | ⟨j, us, z1, z2⟩
                        · exact n (.inl z)
                        · have hj : j ∉ vs := fun hj => by
                            have z3 : (wipeR ρ vs)[j]? = some (.own us) := z1
                            have z4 : (wipe σ vs)[j]? = some (some (.ref b)) := z2
                            rw [wipe_get, if_pos hj] at z4
                            split at z4 <;> cases z4
                          have kj := kg j fun z => hj (hts j z)
                          exact n (.inr ⟨j, us, by rw [kj.2]; exact z1, by rw [kj.1]; exact z2⟩)
          · have e : i = items.length := by omega
            subst e
            rw [List.drop_length] at hgo
            cases hgo
            rw [List.append_nil] at hqs
            subst hqs
            refine .inl ⟨ok.stop _ Hc _ kept (Nat.le_refl _), G _ _ (s1.trans sc) (.inr ⟨D, ws, _, rfl, rfl, s1.free hD, hDc, rc.less fun a z => ?_⟩)⟩
            rcases z with z | z
            · rcases wipe_oo hn z with z | z
              · exact .inl (.inl z)
              · exact .inr z
            · rw [z]; exact OD
      · exact False.elim
  · exact False.elim
variable {ifs : List Expr} {scope : Scope} {own : List (Str × Nat)} {wi : Rho → R (List PV)} {tgt : PV → Rho → Option Rho} {test : Rho → R Bool} {elt : Rho → R PV} {ts : List Nat}
theorem e_lc (hc : X.calm = true) (hN : X.N.Nodup) (hi : IJ X W tg it wi) (ok : BlkOk X.N X.env.scope scope own) (hts : ∀ i ∈ ts, i ∈ own.map (·.2))
    (hg : ∀ (s : Shared) (H : Hp) (C : Addr) (cl : List (Str × Addr)) (fp : List Addr), GJ (X.blk s H scope (compEnvC scope cl C X.env) fp) tg ts tgt)
    (ht : ∀ (s : Shared) (H : Hp) (C : Addr) (cl : List (Str × Addr)) (fp : List Addr), CJ (X.blk s H scope (compEnvC scope cl C X.env) fp) WF ifs test)
    (he : ∀ (s : Shared) (H : Hp) (C : Addr) (cl : List (Str × Addr)) (fp : List Addr), EJ (X.blk s H scope (compEnvC scope cl C X.env) fp) WF .s e elt)
    (hs : ∀ x, foldedSetIterable it X.env x = pure x := by intro _; rfl) : EJ X W .f (.ListComp e [⟨tg, it, ifs, 0⟩] scope pos) (eLc (own.map (·.2)) wi tgt test elt) :=
  pe_imp (pe_lc hc hN hi ok hg ht he hs) (lc_run hts)
end
inductive Out where
  | next (ρ : Rho) | ret (p : PV) | brk (ρ : Rho) | cont (ρ : Rho) | exc (c : Str) (ρ : Rho) | stuck
def GotS (K : PySem.W.Frag) (mg : Str → Option Value) (W : WX) (nw : Bool) (H0 : Hp) (O0 : Addr → Prop) (σ : St) (ρ : Rho) (H : Hp) (D : Ends) : Out → Prop
  | .next ρ' => ∀ σ' H', StR K H0 O0 H' σ' ρ' → Kept (OO O0 σ ρ) H (OO O0 σ' ρ') H' → D.nx σ' H'
  | .brk ρ' => ∀ σ' H', StR K H0 O0 H' σ' ρ' → Kept (OO O0 σ ρ) H (OO O0 σ' ρ') H' → D.bk σ' H'
  | .cont ρ' => ∀ σ' H', StR K H0 O0 H' σ' ρ' → Kept (OO O0 σ ρ) H (OO O0 σ' ρ') H' → D.ct σ' H'
  | .ret p => ∀ v H', Same H0 H' → RepR K O0 nw H0 H' v p → D.rt v H'
  | .exc c ρ' => ∀ C σ' H', mg c = some (.ref C) → StR K H0 O0 H' σ' ρ' → Kept (OO O0 σ ρ) H (OO O0 σ' ρ') H' → W (.ref C) none σ' H'
  | .stuck => False
def tS (K : PySem.W.Frag) (mg : Str → Option Value) (W : WX) (nw : Bool) (g : Rho → Out) : TS := fun D σ H =>
  ∃ H0 O0 ρ, StR K H0 O0 H σ ρ ∧ GotS K mg W nw H0 O0 σ ρ H D (g ρ)
abbrev SJ (X : Cx) (W : WX) (nw : Bool) (st : Stmt) (g : Rho → Out) : Prop := PS X st (tS X.K X.mg W nw g)
abbrev BJ (X : Cx) (W : WX) (nw : Bool) (st : List Stmt) (g : Rho → Out) : Prop := PSs X st (tS X.K X.mg W nw g)
def Out.then (o : Out) (k : Rho → Out) : Out := match o with
  | .next ρ => k ρ
  | o => o
section
variable {K : PySem.W.Frag} {mg : Str → Option Value} {W : WX} {nw : Bool} {H0 H H1 : Hp} {O0 : Addr → Prop} {σ σ1 : St} {ρ ρ1 : Rho} {D : Ends}
theorem GotS.later {o : Out} (k : Kept (OO O0 σ ρ) H (OO O0 σ1 ρ1) H1) (G : GotS K mg W nw H0 O0 σ ρ H D o) : GotS K mg W nw H0 O0 σ1 ρ1 H1 D o := by
  cases o with
  | next ρ' => exact fun σ' H' S k' => G σ' H' S (k.trans k')
  | brk ρ' => exact fun σ' H' S k' => G σ' H' S (k.trans k')
  | cont ρ' => exact fun σ' H' S k' => G σ' H' S (k.trans k')
  | ret p => exact G
  | exc c ρ' => exact fun C σ' H' e S k' => G C σ' H' e S (k.trans k')
  | stuck => exact G
/-- an expression's exception, from the statement's -/
theorem exc_of {c : Str} (S : StR K H0 O0 H σ ρ) (G : GotS K mg W nw H0 O0 σ ρ H D (.exc c ρ)) : ∀ C H', Same H H' → mg c = some (.ref C) → W (.ref C) none σ H' :=
  fun C H' s e => G C σ H' e (S.step s) (Kept.same s)
theorem kept_set {i : Nat} {v : Option V} {s : Slot} (hs : ∀ ps, s ≠ .own ps) (sm : Same H H1) : Kept (OO O0 σ ρ) H (OO O0 (σ.set i v) (ρ.set i s)) H1 := fun a o h n => ⟨sm a o h, fun z => n (OO.set_val hs z)⟩
theorem kept_own {i : Nat} {a : Addr} {ps : List PV} (hn : H a = none) (sm : Same H H1) : Kept (OO O0 σ ρ) H (OO O0 (σ.set i (some (.ref a))) (ρ.set i (.own ps))) H1 := fun b o h n => ⟨sm b o h, fun z => by
  rcases z with z | ⟨j, qs, h1, h2⟩
  · exact n (.inl z)
  · by_cases e : i = j
    · subst e
      by_cases hl : i < σ.length
      · rw [List.getElem?_set_self hl] at h2; cases h2
        exact ne_of_none h hn rfl
      · rw [List.getElem?_eq_none (by rw [List.length_set]; omega)] at h2; cases h2
    · rw [List.getElem?_set_ne e] at h1 h2
      exact n (.inr ⟨j, qs, h1, h2⟩)⟩
end
section
variable {X : Cx} {W : WX} {nw : Bool} {st : Stmt} {rest : List Stmt} {e : Expr} {pos : Pos} {f : Rho → R PV} {g h : Rho → Out}
theorem ps_imp {t t' : TS} (h : PS X st t) (q : ∀ D σ H, t' D σ H → t D σ H) : PS X st t' := ⟨fun pins s σ H D I hw => h.run pins s σ H D I (q D σ H hw)⟩
theorem pss_imp {sts : List Stmt} {t t' : TS} (h : PSs X sts t) (q : ∀ D σ H, t' D σ H → t D σ H) : PSs X sts t' := ⟨fun pins s σ H D I hw => h.run pins s σ H D I (q D σ H hw)⟩
def bNil : Rho → Out := .next
def bSeq (g h : Rho → Out) : Rho → Out := fun ρ => (g ρ).then h
theorem b_nil : BJ X W nw [] bNil := by
  refine pss_imp pss_nil fun D σ H ⟨H0, O0, ρ, S, G⟩ => ?_
  exact G σ H S (Kept.refl _ _)
theorem b_cons (h1 : SJ X W nw st g) (h2 : BJ X W nw rest h) : BJ X W nw (st :: rest) (bSeq g h) := by
  refine pss_imp (pss_cons h1 h2) fun D σ H ⟨H0, O0, ρ, S, G⟩ => ⟨H0, O0, ρ, S, ?_⟩
  have G' : GotS X.K X.mg W nw H0 O0 σ ρ H D ((g ρ).then h) := G
  revert G'
  cases g ρ with
  | next ρ' => exact fun G' σ' H' S' k => ⟨H0, O0, ρ', S', GotS.later k G'⟩
  | ret p => exact fun G => G
  | brk ρ' => exact fun G => G
  | cont ρ' => exact fun G => G
  | exc c ρ' => exact fun G => G
  | stuck => exact fun G => G
/-- by an expression, then on -/
def sE (f : Rho → R PV) (k : PV → Rho → Out) : Rho → Out := fun ρ => match f ρ with
  | .ok p => k p ρ
  | .exc c => .exc c ρ
  | .stuck => .stuck
theorem got_e {K : PySem.W.Frag} {mg : Str → Option Value} {H0 H : Hp} {O0 : Addr → Prop} {σ : St} {ρ : Rho} {D : Ends} {m : Md} {k : PV → Rho → Out} {Q : VK} (S : StR K H0 O0 H σ ρ) (G : GotS K mg W nw H0 O0 σ ρ H D (sE f k ρ))
    (hk : ∀ p v H', Same H H' → RepM K O0 σ ρ m H H' v p → GotS K mg W nw H0 O0 σ ρ H D (k p ρ) → Q v H') : Got K mg W O0 σ ρ m H Q (f ρ) := by
  revert G
  unfold sE
  cases f ρ with
  | ok p => exact fun G v H' s r => hk p v H' s r G
  | exc c => exact fun G => exc_of S G
  | stuck => exact fun G => G
def sDrop (f : Rho → R PV) : Rho → Out := sE f fun _ ρ => .next ρ
theorem s_expr {m : Md} (he : EJ X W m e f) (hs : swapsWith e none pos.line X.env = pure false := by rfl) : SJ X W nw (.Expr e pos) (sDrop f) := by
  refine ps_imp (ps_expr he hs) fun D σ H ⟨H0, O0, ρ, S, G⟩ => ⟨H0, O0, ρ, S, got_e S G fun p v H' s r G => ?_⟩
  exact G σ H' (S.step s) (Kept.same s)
def sRet (f : Rho → R PV) : Rho → Out := sE f fun p _ => .ret p
theorem s_ret (he : EJ X W .s e f) : SJ X W false (.Return (some e) pos) (sRet f) := by
  refine ps_imp (ps_ret he) fun D σ H ⟨H0, O0, ρ, S, G⟩ => ⟨H0, O0, ρ, S, got_e S G fun p v H' s r G => ?_⟩
  exact G v H' (S.same.trans s) (Rep.less (fun _ z => .inl z) r)
theorem s_retF (he : EJ X W .f e f) : SJ X W true (.Return (some e) pos) (sRet f) := by
  refine ps_imp (ps_ret he) fun D σ H ⟨H0, O0, ρ, S, G⟩ => ⟨H0, O0, ρ, S, got_e S G fun p v H' s r G => ?_⟩
  rcases r with z | ⟨a, vs, ps, e1, e2, e3, e4, e5⟩
  · exact G v H' (S.same.trans s) (.inl z)
  · exact G v H' (S.same.trans s) (.inr ⟨a, vs, ps, e1, e2, S.same.free e3, e4, e5.less fun b z => z.elim (fun z => .inl (.inl z)) .inr⟩)
/-- a list of one's own is handed back -/
def sRetO (i : Nat) : Rho → Out := fun ρ => match ρ[i]? with
  | some (.own ps) => .ret (.lst ps)
  | _ => .stuck
def sIf (t : Rho → R Bool) (g h : Rho → Out) : Rho → Out := fun ρ => match t ρ with
  | .ok true => g ρ
  | .ok false => h ρ
  | .exc c => .exc c ρ
  | .stuck => .stuck
theorem s_if {c : Expr} {a b : List Stmt} {t : Rho → R Bool} (hc : TJ X W c t) (ha : BJ X W nw a g) (hb : BJ X W nw b h) : SJ X W nw (.If c a b pos) (sIf t g h) := by
  refine ps_imp (ps_if hc ha hb) fun D σ H ⟨H0, O0, ρ, S, G⟩ => ⟨H0, O0, ρ, S, ?_⟩
  have G' : GotS X.K X.mg W nw H0 O0 σ ρ H D (match t ρ with
    | .ok true => g ρ
    | .ok false => h ρ
    | .exc c => .exc c ρ
    | .stuck => .stuck) := G
  revert G'
  cases t ρ with
  | ok b =>
    cases b with
    | true => exact fun G H' s => by show (if true = true then _ else _); exact iteT ⟨H0, O0, ρ, S.step s, GotS.later (Kept.same s) G⟩
    | false => exact fun G H' s => by show (if false = true then _ else _); exact iteF ⟨H0, O0, ρ, S.step s, GotS.later (Kept.same s) G⟩
  | exc c => exact fun G => exc_of S G
  | stuck => exact fun G => G
def sPass : Rho → Out := .next
def sSet (i : Nat) (f : Rho → R PV) : Rho → Out := sE f fun p ρ => .next (ρ.set i (.val p))
def sSetO (i : Nat) (f : Rho → R PV) : Rho → Out := sE f fun p ρ => match p with
  | .lst ps => .next (ρ.set i (.own ps))
  | _ => .stuck
theorem q_set {K : PySem.W.Frag} {mg : Str → Option Value} {i : Nat} {te : TE} (hte : ∀ σ H Q, tE K mg W .s f σ H Q → te σ H Q) : ∀ D σ H, tS K mg W nw (sSet i f) D σ H → tAsg te (gName i) D σ H := by
  intro D σ H ⟨H0, O0, ρ, S, G⟩
  refine hte _ _ _ ⟨H0, O0, ρ, S, got_e S G fun p v H' s r G => ?_⟩
  exact G _ H' ((S.step s).set (s := .val p) (fun _ z => nomatch z) fun q z => by cases z; exact ⟨v, rfl, r⟩) (kept_set (s := .val p) (fun _ z => nomatch z) s)
theorem q_setO {K : PySem.W.Frag} {mg : Str → Option Value} {i : Nat} {te : TE} (hte : ∀ σ H Q, tE K mg W .f f σ H Q → te σ H Q) : ∀ D σ H, tS K mg W nw (sSetO i f) D σ H → tAsg te (gName i) D σ H := by
  intro D σ H ⟨H0, O0, ρ, S, G⟩
  refine hte _ _ _ ⟨H0, O0, ρ, S, got_e S G fun p v H' s r G => ?_⟩
  rcases r with ⟨rfl, rfl⟩ | ⟨a, vs, ps, rfl, rfl, e3, e4, e5⟩
  · exact G.elim
  · exact G _ H' (S.setOwn s e3 e4 e5) (kept_own e3 s)
/-- a slot that stands now for a list of one's own, now for None -/
def sSetN (i : Nat) (f : Rho → R PV) : Rho → Out := sE f fun p ρ => match p with
  | .lst ps => .next (ρ.set i (.own ps))
  | .non => .next (ρ.set i (.val .non))
  | _ => .stuck
theorem q_setN {K : PySem.W.Frag} {mg : Str → Option Value} {i : Nat} {te : TE} (hte : ∀ σ H Q, tE K mg W .f f σ H Q → te σ H Q) : ∀ D σ H, tS K mg W nw (sSetN i f) D σ H → tAsg te (gName i) D σ H := by
  intro D σ H ⟨H0, O0, ρ, S, G⟩
  refine hte _ _ _ ⟨H0, O0, ρ, S, got_e S G fun p v H' s r G => ?_⟩
  rcases r with ⟨rfl, rfl⟩ | ⟨a, vs, ps, rfl, rfl, e3, e4, e5⟩
  · exact G _ H' ((S.step s).set (s := .val .non) (fun _ z => nomatch z) fun q z => by cases z; exact ⟨.non, rfl, .non⟩) (kept_set (s := .val .non) (fun _ z => nomatch z) s)
  · exact G _ H' (S.setOwn s e3 e4 e5) (kept_own e3 s)
theorem s_set {i : Nat} {x : Str} {pos' : Pos} (hN : X.N.Nodup) (hi : X.N[i]? = some x) (hx : Loc X.env.scope x) (he : EJ X W .s e f) (hs : swapsWith e (some (.Name x pos')) pos.line X.env = pure false := by rfl) (hf : X.fn x = true ∨ X.env.scope.names.lookup x = some .local := by first | exact .inl rfl | exact .inr rfl | assumption) :
    SJ X W nw (.Assign [.Name x pos'] e pos) (sSet i f) := ps_imp (ps_set hN hi hx he hs hf) (q_set fun _ _ _ z => z)
theorem s_setO {i : Nat} {x : Str} {pos' : Pos} (hN : X.N.Nodup) (hi : X.N[i]? = some x) (hx : Loc X.env.scope x) (he : EJ X W .f e f) (hs : swapsWith e (some (.Name x pos')) pos.line X.env = pure false := by rfl) (hf : X.fn x = true ∨ X.env.scope.names.lookup x = some .local := by first | exact .inl rfl | exact .inr rfl | assumption) :
    SJ X W nw (.Assign [.Name x pos'] e pos) (sSetO i f) := ps_imp (ps_set hN hi hx he hs hf) (q_setO fun _ _ _ z => z)
theorem s_setN {i : Nat} {x : Str} {pos' : Pos} (hN : X.N.Nodup) (hi : X.N[i]? = some x) (hx : Loc X.env.scope x) (he : EJ X W .f e f) (hs : swapsWith e (some (.Name x pos')) pos.line X.env = pure false := by rfl) (hf : X.fn x = true ∨ X.env.scope.names.lookup x = some .local := by first | exact .inl rfl | exact .inr rfl | assumption) :
    SJ X W nw (.Assign [.Name x pos'] e pos) (sSetN i f) := ps_imp (ps_set hN hi hx he hs hf) (q_setN fun _ _ _ z => z)
/-- target = e -/
def sTo (h : PV → Rho → Option Rho) (f : Rho → R PV) : Rho → Out := sE f fun p ρ => match h p ρ with
  | some ρ' => .next ρ'
  | none => .stuck
theorem s_to {tg : Expr} {ts : List Nat} {h : PV → Rho → Option Rho} (he : EJ X W .s e f) (hg : GJ X tg ts h) (hs : swapsWithSole [tg] e pos.line X.env = pure false := by rfl) (hw : swappedStores [tg] e X.env = pure none := by rfl)
    (h1 : (assignEach [tg] X.env).map (·.2) = [assign tg X.env] := by rfl) : SJ X W nw (.Assign [tg] e pos) (sTo h f) := by
  refine ps_imp (ps_asg he hg hs hw h1) fun D σ H ⟨H0, O0, ρ, S, G⟩ => ⟨H0, O0, ρ, S, got_e S G fun p v H' s r G => ?_⟩
  refine ⟨H0, O0, ρ, p, S.step s, r, ?_⟩
  revert G
  cases h p ρ with
  | none => exact False.elim
  | some ρ' => exact fun G σ' S' l _ _ => G σ' H' S' fun a o ho n => ⟨s a o ho, fun z => n (l a z)⟩
/-- a, b = x, y -/
def sPar (i j : Nat) (fA : Rho → R (List PV)) : Rho → Out := fun ρ => match fA ρ with
  | .ok [p, q] => .next ((ρ.set i (.val p)).set j (.val q))
  | .exc c => .exc c ρ
  | _ => .stuck
theorem s_par {i j : Nat} {x y : Str} {a b : Expr} {fA : Rho → R (List PV)} {px py pt : Pos} {kt k2 pt2} (hc : X.calm = true) (hN : X.N.Nodup) (hi : X.N[i]? = some x) (hj : X.N[j]? = some y) (hij : i ≠ j)
    (hx : X.env.scope.names.lookup x = some .local) (hy : X.env.scope.names.lookup y = some .local) (ha : AJ X W .s [a, b] fA)
    (hw : swappedStores [.Tuple [.Name x px, .Name y py] kt pt] (.Tuple [a, b] k2 pt2) X.env = pure (some [x, y]))
    (hs : swapsWithSole [.Tuple [.Name x px, .Name y py] kt pt] (.Tuple [a, b] k2 pt2) pos.line X.env = pure false := by rfl) :
    SJ X W nw (.Assign [.Tuple [.Name x px, .Name y py] kt pt] (.Tuple [a, b] k2 pt2) pos) (sPar i j fA) := by
  refine ps_imp (ps_par hc hN hi hj hij hx hy ha hw hs) fun D σ H ⟨H0, O0, ρ, S, G⟩ => ⟨H0, O0, ρ, S, ?_⟩
  unfold sPar at G
  revert G
  cases fA ρ with
  | stuck => exact False.elim
  | exc c => exact fun G => exc_of S G
  | ok ps =>
    match ps with
    | [p, q] =>
      intro G vs H' s r
      obtain ⟨v, w, rfl, r1, r2⟩ := pr2 r
      refine ⟨v, w, rfl, ?_⟩
      have S1 := S.step s
      have S2 := S1.set (i := i) (v := some v) (s := .val p) (fun _ z => nomatch z) fun q z => by cases z; exact ⟨v, rfl, r1⟩
      have l1 : ∀ a, OO O0 (σ.set i (some v)) (ρ.set i (.val p)) a → OO O0 σ ρ a := fun a z => OO.set_val (s := .val p) (fun _ z => nomatch z) z
      have r2' : Rep X.K H' (OO O0 (σ.set i (some v)) (ρ.set i (.val p))) w q := Rep.less l1 r2
      have S3 := S2.set (i := j) (v := some w) (s := .val q) (fun _ z => nomatch z) fun q' z => by cases z; exact ⟨w, rfl, r2'⟩
      exact G _ H' S3 fun a o ho n => ⟨s a o ho, fun z => n (l1 a (OO.set_val (s := .val q) (fun _ z => nomatch z) z))⟩
    | [] => exact False.elim
    | [_] => exact False.elim
    | _ :: _ :: _ :: _ => exact False.elim
/-- x op= e, by values -/
def sAug (i : Nat) (g : PV → PV → R PV) (f : Rho → R PV) : Rho → Out := fun ρ => match ρ[i]? with
  | some (.val x) => sE (fun ρ => (f ρ).bind fun y => g x y) (fun z ρ => .next (ρ.set i (.val z))) ρ
  | _ => .stuck
theorem s_aug {i : Nat} {x : Str} {op : Operator} {r : R2} {g : PV → PV → R PV} {pos' : Pos} (hN : X.N.Nodup) (hi : X.N[i]? = some x) (hx : Loc X.env.scope x) (he : EJ X W .t e f) (hr : OpR X (inplaceOp op) r) (hg : ∀ p q c, g p q ≠ .exc c) (ho : OpS X.K r .t .t .s g) (hf : X.fn x = true ∨ X.env.scope.names.lookup x = some .local := by first | exact .inl rfl | exact .inr rfl | assumption) :
    SJ X W nw (.AugAssign (.Name x pos') op e pos) (sAug i g f) := by
  refine ps_imp (ps_aug hN hi hx he (ti := r) (fun pins s σ H x y v u Q I r1 r2 h => hr pins s σ H x y v u Q I r1 r2 h) hf) fun D σ H ⟨H0, O0, ρ, S, G⟩ => ?_
  unfold sAug at G
  split at G
  · rename_i p hp
    obtain ⟨v, e1, e2⟩ := S.val i p hp
    refine ⟨v, e1, H0, O0, ρ, S, ?_⟩
    have G' : GotS X.K X.mg W nw H0 O0 σ ρ H D (match (f ρ).bind fun y => g p y with
      | .ok z => .next (ρ.set i (.val z))
      | .exc c => .exc c ρ
      | .stuck => .stuck) := G
    revert G'
    cases f ρ with
    | stuck => exact False.elim
    | exc c => exact fun G => exc_of S G
    | ok q =>
      intro G y H1 s1 r1
      refine ho S s1 (RepM.s_t (H := H) (Rep.same s1 e2)) r1 ?_
      revert G
      rw [R.bind_ok]
      cases hz : g p q with
      | stuck => exact False.elim
      | exc c => exact absurd hz (hg p q c)
      | ok z => exact fun G w H2 s2 r2 => G _ H2 ((S.step (s1.trans s2)).set (s := .val z) (fun _ z => nomatch z) fun q z => by cases z; exact ⟨w, rfl, r2⟩) (kept_set (s := .val z) (fun _ z => nomatch z) (s1.trans s2))
  · exact G.elim
theorem s_augAdd {i : Nat} {x : Str} {pos' : Pos} (hN : X.N.Nodup) (hi : X.N[i]? = some x) (hx : Loc X.env.scope x) (he : EJ X W .t e f) (hf : X.fn x = true ∨ X.env.scope.names.lookup x = some .local := by first | exact .inl rfl | exact .inr rfl | assumption) :
    SJ X W nw (.AugAssign (.Name x pos') .Add e pos) (sAug i (intP (fun _ _ => true) fun a b => .int (a + b)) f) := s_aug hN hi hx he iop_add intP_exc (s_int0 fun _ _ _ _ => .int _) hf
/-- a list is let go -/
def sFrz (i : Nat) (g : Rho → Out) : Rho → Out := fun ρ => match ρ[i]? with
  | some (.own ps) => g (ρ.set i (.val (.lst ps)))
  | _ => g ρ
theorem s_frz {i : Nat} {sts : List Stmt} (h : BJ X W nw sts g) : BJ X W nw sts (sFrz i g) := by
  refine pss_imp h fun D σ H ⟨H0, O0, ρ, S, G⟩ => ?_
  unfold sFrz at G
  split at G
  · rename_i ps hp
    have k : Kept (OO O0 σ ρ) H (OO O0 σ (ρ.set i (.val (.lst ps)))) H := fun a o h n => ⟨h, fun z => n (by
      rcases z with z | ⟨j, qs, h1, h2⟩
      · exact .inl z
      · by_cases e : i = j
        · subst e
          rw [List.getElem?_set_self (List.getElem?_eq_some_iff.mp hp).1] at h1; cases h1
        · rw [List.getElem?_set_ne e] at h1
          exact .inr ⟨j, qs, h1, h2⟩)⟩
    exact ⟨H0, O0, _, S.freeze hp, GotS.later k G⟩
  · exact ⟨H0, O0, ρ, S, G⟩
end
end PL
set_option Elab.async false
set_option linter.all false
set_option maxRecDepth 100000
set_option autoImplicit false
namespace PL
open PySem PySem.Spec L2
open PyProof.Rows hiding St
section
variable {X : Cx} {W : WX} {nw : Bool} {st : Stmt} {rest : List Stmt} {e : Expr} {pos : Pos} {f : Rho → R PV} {g h : Rho → Out}
def forL (tgt : PV → Rho → Option Rho) (body : Rho → Out) : List PV → Rho → Out
  | [], ρ => .next ρ
  | p :: ps, ρ => match tgt p ρ with
    | none => .stuck
    | some ρ1 => match body ρ1 with
      | .next ρ' => forL tgt body ps ρ'
      | .cont ρ' => forL tgt body ps ρ'
      | .brk ρ' => .next ρ'
      | o => o
def sFor (it : Rho → R (List PV)) (tgt : PV → Rho → Option Rho) (body : Rho → Out) : Rho → Out := fun ρ => match it ρ with
  | .ok items => forL tgt body items ρ
  | .exc c => .exc c ρ
  | .stuck => .stuck
theorem s_for {tg it : Expr} {body : List Stmt} {wi : Rho → R (List PV)} {tgt : PV → Rho → Option Rho} {ts : List Nat} (hp : PassesOwn (model X.prog X.w) X.A X.env X.xe) (hc : X.calm = true) (hi : IJ X W tg it wi) (hg : GJ X tg ts tgt) (hb : BJ X W nw body g) (hs : ∀ x, foldedSetIterable it X.env x = pure x := by intro _; rfl) : SJ X W nw (.For tg it body [] pos) (sFor wi tgt g) := by
  refine ps_imp (ps_for hp hc hi hg hb hs) fun D σ H ⟨H0, O0, ρ, S, G⟩ => ⟨H0, O0, ρ, S, ?_⟩
  have G' : GotS X.K X.mg W nw H0 O0 σ ρ H D (match wi ρ with
    | .ok items => forL tgt g items ρ
    | .exc c => .exc c ρ
    | .stuck => .stuck) := G
  revert G'
  cases wi ρ with
  | stuck => exact False.elim
  | exc c => exact fun G => exc_of S G
  | ok items =>
    intro G J H1 s1 ok
    refine ⟨fun i m σc Hc => m = items.length - i ∧ i ≤ items.length ∧ ∃ ρc, StR X.K H0 O0 Hc σc ρc ∧ Kept (OO O0 σ ρ) H1 (OO O0 σc ρc) Hc ∧ GotS X.K X.mg W nw H0 O0 σc ρc Hc D (forL tgt g (items.drop i) ρc),
      ⟨items.length, by simp, Nat.zero_le _, ρ, S.step s1, Kept.refl _ _, by rw [List.drop_zero]; exact GotS.later (Kept.same s1) G⟩, ?_⟩
    rintro i m σc Hc ⟨rfl, hi, ρc, Sc, kc, Gc⟩
    by_cases hlt : i < items.length
    · refine .inr ⟨ok.go i Hc _ kc hlt, fun σ' H' => ∃ ρ', StR X.K H0 O0 H' σ' ρ' ∧ Kept (OO O0 σ ρ) H1 (OO O0 σ' ρ') H' ∧ GotS X.K X.mg W nw H0 O0 σ' ρ' H' D (forL tgt g (items.drop (i + 1)) ρ'), fun σ' H' n => ⟨items.length - (i + 1), by omega, rfl, hlt, n⟩, fun x Hy hy => ?_⟩
      have hg : items[i]? = some items[i] := List.getElem?_eq_getElem hlt
      obtain ⟨sy, ry⟩ := ok.yld i Hc _ x Hy _ kc (fun a z => Sc.there z) hg hy
      have hdr : items.drop i = items[i] :: items.drop (i + 1) := List.drop_eq_getElem_cons hlt
      rw [hdr] at Gc
      refine ⟨H0, O0, ρc, items[i], Sc.step sy, ry, ?_⟩
      unfold forL at Gc
      revert Gc
      cases tgt items[i] ρc with
      | none => exact False.elim
      | some ρ1 =>
        intro Gc σ2 S2 l2 _ _
        have k2 : Kept (OO O0 σc ρc) Hc (OO O0 σ2 ρ1) Hy := fun a o h n => ⟨sy a o h, fun z => n (l2 a z)⟩
        refine ⟨H0, O0, ρ1, S2, ?_⟩
        have Gc' := GotS.later k2 Gc
        revert Gc'
        dsimp only
        cases g ρ1 with
        | next ρ' => exact fun Gc' σ' H' S' k' => ⟨ρ', S', (kc.trans k2).trans k', GotS.later k' Gc'⟩
        | cont ρ' => exact fun Gc' σ' H' S' k' => ⟨ρ', S', (kc.trans k2).trans k', GotS.later k' Gc'⟩
        | brk ρ' => exact fun G => G
        | ret p => exact fun G => G
        | exc c ρ' => exact fun G => G
        | stuck => exact fun G => G
    · have e : i = items.length := by omega
      subst e
      rw [List.drop_length] at Gc
      exact .inl ⟨ok.stop _ Hc _ kc (Nat.le_refl _), Gc σc Hc Sc (Kept.refl _ _)⟩
def whN (t : Rho → R Bool) (b : Rho → Out) : Nat → Rho → Out
  | 0, _ => .stuck
  | n + 1, ρ => match t ρ with
    | .stuck => .stuck
    | .exc c => .exc c ρ
    | .ok false => .next ρ
    | .ok true => match b ρ with
      | .next ρ' => whN t b n ρ'
      | .cont ρ' => whN t b n ρ'
      | .brk ρ' => .next ρ'
      | o => o
theorem whN_more {t : Rho → R Bool} {b : Rho → Out} : ∀ (n : Nat) (ρ : Rho), whN t b n ρ ≠ .stuck → whN t b (n + 1) ρ = whN t b n ρ
  | 0, ρ, h => absurd rfl h
  | n + 1, ρ, h => by
    unfold whN at h
    rw [whN]
    conv => rhs; rw [whN]
    revert h
    cases t ρ with
    | stuck => exact fun _ => rfl
    | exc c => exact fun _ => rfl
    | ok k =>
      cases k with
      | false => exact fun _ => rfl
      | true =>
        dsimp only
        cases b ρ with
        | next ρ' => exact fun h => whN_more n ρ' h
        | cont ρ' => exact fun h => whN_more n ρ' h
        | _ => exact fun _ => rfl
theorem whN_le {t : Rho → R Bool} {b : Rho → Out} {n m : Nat} {ρ : Rho} (h : whN t b n ρ ≠ .stuck) (hl : n ≤ m) : whN t b m ρ = whN t b n ρ := by
  induction m with
  | zero => rw [Nat.le_zero.mp hl]
  | succ m ih =>
    by_cases e : n = m + 1
    · rw [e]
    · have q := ih (by omega)
      rw [whN_more m ρ (by rw [q]; exact h), q]
open Classical in
noncomputable def sWh (t : Rho → R Bool) (b : Rho → Out) (ρ : Rho) : Out := if h : ∃ n, whN t b n ρ ≠ .stuck then whN t b h.choose ρ else .stuck
theorem sWh_of {t : Rho → R Bool} {b : Rho → Out} {n : Nat} {ρ : Rho} (h : whN t b n ρ ≠ .stuck) : sWh t b ρ = whN t b n ρ := by
  have hx : ∃ n, whN t b n ρ ≠ .stuck := ⟨n, h⟩
  unfold sWh
  rw [dif_pos hx]
  have hc := hx.choose_spec
  rcases Nat.le_total n hx.choose with l | l
  · exact whN_le h l
  · exact (whN_le hc l).symm
theorem sWh_ex {t : Rho → R Bool} {b : Rho → Out} {ρ : Rho} (h : sWh t b ρ ≠ .stuck) : ∃ n, whN t b n ρ = sWh t b ρ := by
  by_cases hx : ∃ n, whN t b n ρ ≠ .stuck
  · obtain ⟨n, hn⟩ := hx
    exact ⟨n, (sWh_of hn).symm⟩
  · unfold sWh at h
    rw [dif_neg hx] at h
    exact absurd rfl h
/-- one turn -/
theorem sWh_eq (t : Rho → R Bool) (b : Rho → Out) (ρ : Rho) : sWh t b ρ = (match t ρ with
    | .stuck => .stuck
    | .exc c => .exc c ρ
    | .ok false => .next ρ
    | .ok true => match b ρ with
      | .next ρ' => sWh t b ρ'
      | .cont ρ' => sWh t b ρ'
      | .brk ρ' => .next ρ'
      | o => o) := by
  have go : ∀ ρ', (∀ n, whN t b (n + 1) ρ = whN t b n ρ') → sWh t b ρ = sWh t b ρ' := fun ρ' q => by
    by_cases h : sWh t b ρ' = .stuck
    · rw [h]
      by_cases h2 : sWh t b ρ = .stuck
      · exact h2
      · obtain ⟨n, hn⟩ := sWh_ex h2
        have hn' : whN t b n ρ ≠ .stuck := by rw [hn]; exact h2
        have e : whN t b n ρ' ≠ .stuck := by rw [← q n, whN_more n ρ hn']; exact hn'
        rw [sWh_of e] at h
        exact absurd h e
    · obtain ⟨n, hn⟩ := sWh_ex h
      have e : whN t b (n + 1) ρ ≠ .stuck := by rw [q n, hn]; exact h
      rw [sWh_of e, q n, hn]
  have one : ∀ o, o ≠ .stuck → whN t b 1 ρ = o → sWh t b ρ = o := fun o ho e => by rw [← e]; exact sWh_of (by rw [e]; exact ho)
  have non : (∀ n, whN t b n ρ = .stuck) → sWh t b ρ = .stuck := fun q => by
    unfold sWh
    rw [dif_neg (fun ⟨n, hn⟩ => hn (q n))]
  cases ht : t ρ with
  | stuck => exact non fun n => by cases n with | zero => rfl | succ n => rw [whN, ht]
  | exc c => exact one _ (fun z => nomatch z) (by rw [whN, ht])
  | ok k =>
    cases k with
    | false => exact one _ (fun z => nomatch z) (by rw [whN, ht])
    | true =>
      dsimp only
      cases hb : b ρ with
      | next ρ' => exact go ρ' fun n => by rw [whN, ht]; dsimp only; rw [hb]
      | cont ρ' => exact go ρ' fun n => by rw [whN, ht]; dsimp only; rw [hb]
      | brk ρ' => exact one _ (fun z => nomatch z) (by rw [whN, ht]; dsimp only; rw [hb])
      | ret p => exact one _ (fun z => nomatch z) (by rw [whN, ht]; dsimp only; rw [hb])
      | exc c ρ' => exact one _ (fun z => nomatch z) (by rw [whN, ht]; dsimp only; rw [hb])
      | stuck => exact non fun n => by cases n with | zero => rfl | succ n => rw [whN, ht]; dsimp only; rw [hb]
theorem s_while {c : Expr} {body : List Stmt} {t : Rho → R Bool} (hp : PassesOwn (model X.prog X.w) X.A X.env X.xe) (hc : TJ X W c t) (hb : BJ X W nw body g) : SJ X W nw (.While c body [] pos) (sWh t g) := by
  refine ps_imp (ps_while hp hc hb) fun D σ H ⟨H0, O0, ρ, S, G⟩ => ?_
  have ns : sWh t g ρ ≠ .stuck := fun z => by rw [z] at G; exact G
  obtain ⟨n, hn⟩ := sWh_ex ns
  rw [← hn] at G
  refine ⟨fun m σc Hc => ∃ ρc, StR X.K H0 O0 Hc σc ρc ∧ GotS X.K X.mg W nw H0 O0 σc ρc Hc D (whN t g m ρc), ⟨n, ρ, S, G⟩, ?_⟩
  rintro m σc Hc ⟨ρc, Sc, Gc⟩
  cases m with
  | zero => exact Gc.elim
  | succ m =>
    refine ⟨H0, O0, ρc, Sc, ?_⟩
    unfold whN at Gc
    revert Gc
    cases t ρc with
    | stuck => exact False.elim
    | exc c => exact fun G => exc_of Sc G
    | ok k =>
      cases k with
      | false => exact fun G H1 s1 => iteF (G σc H1 (Sc.step s1) (Kept.same s1))
      | true =>
        dsimp only
        intro G H1 s1
        refine iteT ⟨fun σ' H' => ∃ ρ', StR X.K H0 O0 H' σ' ρ' ∧ GotS X.K X.mg W nw H0 O0 σ' ρ' H' D (whN t g m ρ'), fun σ' H' z => ⟨m, Nat.lt_succ_self m, z⟩, H0, O0, ρc, Sc.step s1, ?_⟩
        have G' := GotS.later (Kept.same s1) G
        revert G'
        cases g ρc with
        | next ρ' => exact fun Gc' σ' H' S' k' => ⟨ρ', S', GotS.later k' Gc'⟩
        | cont ρ' => exact fun Gc' σ' H' S' k' => ⟨ρ', S', GotS.later k' Gc'⟩
        | brk ρ' => exact fun G => G
        | ret p => exact fun G => G
        | exc c ρ' => exact fun G => G
        | stuck => exact fun G => G
theorem kept_write {O0 : Addr → Prop} {σ : St} {ρ : Rho} {H : Hp} {i : Nat} {a : Addr} {ps qs : List PV} {ws : List V} (h1 : ρ[i]? = some (.own ps)) (h2 : σ[i]? = some (some (.ref a))) : Kept (OO O0 σ ρ) H (OO O0 σ (ρ.set i (.own qs))) (upd H a (.lst ws)) := fun b o h n =>
  ⟨by rw [upd_ne (fun z => n (by rw [z]; exact .inr ⟨i, ps, h1, h2⟩))]; exact h, fun z => n (by
    rcases z with z | ⟨j, rs, e1, e2⟩
    · exact .inl z
    · by_cases e : i = j
      · subst e; exact .inr ⟨i, ps, h1, e2⟩
      · rw [List.getElem?_set_ne e] at e1; exact .inr ⟨j, rs, e1, e2⟩)⟩
/-- by the list of slot i and a value -/
def sMut (i : Nat) (g : List PV → PV → R (List PV)) (f : Rho → R PV) : Rho → Out := fun ρ => match ρ[i]? with
  | some (.own ps) => sE f (fun p ρ => match g ps p with
    | .ok qs => .next (ρ.set i (.own qs))
    | _ => .stuck) ρ
  | _ => .stuck
def appP (ps : List PV) (p : PV) : R (List PV) := if ps.length < sizeLine then .ok (ps ++ [p]) else .stuck
variable {o : Expr} {apos : Pos} {i : Nat}
theorem s_app (ho : PE X o (tVar i)) (he : EJ X W .s e f) (hs : swapsWith (.Call (.Attribute o "append" apos) [e] [] pos) none pos.line X.env = pure false := by rfl)
    (hbase : attributeBase o "append" X.env (eval o X.env) = eval o X.env := by rfl)
    (hfew : ((backTo pos (starEach [e] X.env)).all (fun x => !x.1) && (backToKw pos (keywordEach [] X.env)).all (fun x => x.1.isSome)
      && decide ([e].length + ([] : List Keyword).length + (if ([] : List Keyword).isEmpty then 0 else 1) < 30)) = true := by rfl)
    (hline : (apos.endLine == pos.line) = true := by rfl) (hs1 : starEach [e] X.env = (false, eval e X.env) :: starEach [] X.env := by rfl) (hplain : (backTo pos (starEach [] X.env)).any (·.1) = false := by rfl) :
    SJ X W nw (.Expr (.Call (.Attribute o "append" apos) [e] [] pos) pos) (sMut i appP f) := by
  refine ps_imp (ps_expr (pe_bm PySem.F.plainAttrs_list PySem.F.slot_list_append PySem.F.type_list_append mt_append ho (pa_cons he pa_nil hs1) hbase hfew hline hs1 hplain) hs) fun D σ H ⟨H0, O0, ρ, S, G⟩ => ?_
  unfold sMut at G
  split at G
  · rename_i ps hp
    obtain ⟨a, vs, e1, e2, e3, e4, e5⟩ := S.own i ps hp
    refine ⟨.ref a, e1, .inl ⟨rfl, vs, .inl (.inl e2)⟩, H0, O0, ρ, S, got_e S G fun p v H1 s1 r1 G => ?_⟩
    unfold appP at G
    split at G
    · rename_i qs hq
      split at hq
      · rename_i hz
        cases hq
        have r5 := (e5.same s1).append (.cons (show Rep X.K H1 (OO O0 σ ρ) v p from r1) .nil)
        exact ⟨a, vs, v, rfl, rfl, s1 _ _ e2, by rw [e5.length]; exact hz, G _ _ ((S.step s1).write hp e1 r5) ((Kept.same s1).trans (kept_write hp e1))⟩
      · cases hq
    · exact G.elim
  · exact G.elim
/-- xs[j] = e -/
def setP (ps : List PV) (p : PV) : PV → R (List PV)
  | .int k => match ixN ps.length k with
    | some j => .ok (ps.set j p)
    | none => .stuck
  | _ => .stuck
def sSetI (i : Nat) (f fi : Rho → R PV) : Rho → Out := fun ρ => match ρ[i]? with
  | some (.own ps) => sE f (fun p => sE fi fun q ρ => match setP ps p q with
    | .ok qs => .next (ρ.set i (.own qs))
    | _ => .stuck) ρ
  | _ => .stuck
theorem s_setI {ix : Expr} {fi : Rho → R PV} {p2 : Pos} (ho : PE X o (tVar i)) (he : EJ X W .s e f) (hi : EJ X W .s ix fi)
    (ha : ∀ v, assign (.Subscript o ix p2) X.env v = (do
      let ov ← holding [v] (eval o X.env)
      let iv ← holding [v, ov] (eval ix X.env)
      standAt p2
      holding [v, ov, iv] (setItem ov iv v)
      release [v, ov, iv] []) := by intro _; rfl)
    (hs : swapsWithSole [.Subscript o ix p2] e pos.line X.env = pure false := by rfl) (hw : swappedStores [.Subscript o ix p2] e X.env = pure none := by rfl)
    (h1 : (assignEach [.Subscript o ix p2] X.env).map (·.2) = [assign (.Subscript o ix p2) X.env] := by rfl) : SJ X W nw (.Assign [.Subscript o ix p2] e pos) (sSetI i f fi) := by
  refine ps_imp (ps_asg he (pg_sub ho hi set_list ha) hs hw h1) fun D σ H ⟨H0, O0, ρ, S, G⟩ => ?_
  unfold sSetI at G
  split at G
  · rename_i ps hp
    refine ⟨H0, O0, ρ, S, got_e S G fun p v H1 s1 r1 G => ?_⟩
    have r1 : Rep X.K H1 (OO O0 σ ρ) v p := r1
    have S1 := S.step s1
    obtain ⟨a, vs, e1, e2, e3, e4, e5⟩ := S1.own i ps hp
    refine ⟨.ref a, e1, H0, O0, ρ, S1, got_e S1 (GotS.later (Kept.same s1) G) fun q w H2 s2 r2 G => ?_⟩
    unfold setP at G
    split at G
    · rename_i qs hq
      split at hq
      · split at hq
        · rename_i j hj
          cases hq
          cases (show Rep X.K H2 (OO O0 σ ρ) w (.int _) from r2)
          have r5 := (e5.same s2).set (r1.same s2) j
          exact ⟨a, vs, _, j, rfl, rfl, s2 _ _ e2, by rw [e5.length]; exact hj, G _ _ ((S1.step s2).write hp e1 r5) ((Kept.same s2).trans (kept_write hp e1))⟩
        · cases hq
      · cases hq
    · exact G.elim
  · exact G.elim
/-- what is known of a class of errors of the text's own -/
structure ExcT (K : PySem.W.Frag) (mg : Str → Option Value) (x : Str) (C : Addr) : Prop where
  g : mg x = some (.ref C)
  ex : PySem.W.excIn K C [.type "ValueError", .type "Exception", .type "BaseException", .type "object"] "ValueError.__new__" = true
  kp : PySem.W.keepIn K (.ref C) = true
  sb : PySem.W.subIn K (.ref C) (.type "BaseException") = some true
  ty : PySem.W.typeIn K (.ref C) = some (.type "type")
def sRaise (x : Str) : Rho → Out := .exc x
theorem s_raise {x m : Str} {C : Addr} {j : Nat} {p p2 p3 : Pos} (T : ExcT X.K X.mg x C) (hc : X.calm = true) (tk : L2N.Takes X W) (hg : Gl X x) (hdb : (x == ("__debug__" : Str)) = false := by decide) : SJ X W nw (.Raise (some (.Call (.Name x p) [.Constant (.str m) j p2] [] p3)) none pos) (sRaise x) := by
  refine ps_imp (L2N.ps_raise hc tk (L2N.pmk_own PySem.F.excBase_ValueError T.ex T.g T.kp (raises_own T.sb T.ty) hg hdb)) fun D σ H ⟨H0, O0, ρ, S, G⟩ => ?_
  exact G C σ H T.g S (Kept.refl _ _)
end
def runF (n : Nat) (g : Rho → Out) : List PV → R PV := fun ps => match g (ps.map Slot.val ++ List.replicate (n - ps.length) Slot.un) with
  | .ret p => .ok p
  | .next _ => .ok .non
  | .exc c _ => .exc c
  | _ => .stuck
theorem start_st {K : PySem.W.Frag} {H : Hp} {O : Addr → Prop} {vs : List V} {ps : List PV} {N : List Str} (al : ∀ a, O a → H a ≠ none) (r : Reps K H O vs ps) : StR K H O H (L2.start N vs) (ps.map Slot.val ++ List.replicate (N.length - ps.length) Slot.un) := by
  have hl := r.length
  have noown : ∀ (i : Nat) qs, (ps.map Slot.val ++ List.replicate (N.length - ps.length) Slot.un)[i]? ≠ some (.own qs) := fun i qs e => by
    have := List.mem_of_getElem? e
    rcases List.mem_append.mp this with z | z
    · obtain ⟨p, _, z⟩ := List.mem_map.mp z
      cases z
    · cases (List.mem_replicate.mp z).2
  have oo : ∀ a, OO O (L2.start N vs) (ps.map Slot.val ++ List.replicate (N.length - ps.length) Slot.un) a → O a := fun a z => by
    rcases z with z | ⟨i, qs, h1, _⟩
    · exact z
    · exact absurd h1 (noown i qs)
  refine ⟨by unfold L2.start; simp [hl], Same.refl H, al, fun i qs h => absurd h (noown i qs), fun i j a qs rs h => absurd h (noown i qs), fun i p h => ?_, (fun i a h => by
    have := List.mem_of_getElem? h
    rcases List.mem_append.mp this with z | z
    · obtain ⟨p, _, z⟩ := List.mem_map.mp z
      cases z
    · cases (List.mem_replicate.mp z).2), fun i a l h => by
    have := List.mem_of_getElem? h
    rcases List.mem_append.mp this with z | z
    · obtain ⟨p, _, z⟩ := List.mem_map.mp z
      cases z
    · cases (List.mem_replicate.mp z).2⟩
  by_cases hi : i < ps.length
  · rw [List.getElem?_append_left (by rw [List.length_map]; exact hi), List.getElem?_map] at h
    cases hq : ps[i]? with
    | none => rw [hq] at h; cases h
    | some q =>
      rw [hq] at h
      cases h
      obtain ⟨v, h1, h2⟩ := r.get hq
      refine ⟨v, ?_, h2.less oo⟩
      unfold L2.start
      rw [List.getElem?_append_left (by rw [List.length_map, hl]; exact hi), List.getElem?_map, h1]
      rfl
  · rw [List.getElem?_append_right (by rw [List.length_map]; omega)] at h
    have := List.mem_of_getElem? h
    cases (List.mem_replicate.mp this).2
section
variable {P : Program} {w : World} {K : PySem.W.Frag} {mg : Str → Option Value} {base : Heap}
theorem Fun_okN {x qual : Str} {st : Stmt} {f : Addr} {fd : FuncData} {N ps : List Str} {k : Nat} {sp : Sp} (F : Fun K x qual st f fd) (S : FnScope N ps (defScope st)) (len : ∀ vs H Q E, sp vs H Q E → vs.length = ps.length)
    (hbody : ∀ (cdv : Value) (A : Around) (outer : List PySem.Env) (s : Shared) (H : Hp) (vs : List V) (Q : VK) (E : XK), Room k (A.deeper (envOfC qual (defScope st) s.heap.objs.size f cdv)) → sp vs H Q E →
      ∃ t, PSs (cxOf (L2N.CX P w) P w K mg base N qual (defScope st) f cdv A outer s H E) (defBody st) t ∧ t { nx := fun _ H' => Q .non H', rt := Q } (L2.start N vs) H) : FnOk P w K mg base (L2N.CX P w) (k + 1) f fd ps sp := by
  obtain ⟨oc, od, kV, doc, pm, an, cdv, ct, osl, rfl, lk, hcd⟩ := F.ex
  exact fn_of lk hcd S len fun A outer s H vs Q E hr hsp => hbody cdv A outer s H vs Q E hr hsp
theorem fn_mk {x qual : Str} {st : Stmt} {f : Addr} {fd : FuncData} {N ps : List Str} {k n : Nat} {nw : Bool} {g : Rho → Out} (F : Fun K x qual st f fd) (S : FnScope N ps (defScope st)) (hn : n = ps.length) (hnw : nw = true → ∀ l, ∀ ρ, g l ≠ .next ρ)
    (hbody : ∀ (cdv : Value) (A : Around) (outer : List PySem.Env) (s : Shared) (H : Hp) (E : XK), Room k (A.deeper (envOfC qual (defScope st) s.heap.objs.size f cdv)) →
      BJ (cxOf (L2N.CX P w) P w K mg base N qual (defScope st) f cdv A outer s H E) (fun cls d _ H => E cls d H) nw (defBody st) g) :
    FnOk P w K mg base (L2N.CX P w) (k + 1) f fd ps (spF K mg n nw (runF N.length g)) := by
  refine Fun_okN F S (fun vs H Q E h => ?_) (fun cdv A outer s H vs Q E hr h => ?_)
  · obtain ⟨_, _, _, _, e, _⟩ := h
    rw [e, hn]
  · obtain ⟨qs, O, al, r, e, h⟩ := h
    refine ⟨_, hbody cdv A outer s H E hr, H, O, _, start_st al r, ?_⟩
    have h' : (match runF N.length g qs with
      | .ok p => ∀ v H', Same H H' → RepR K O nw H H' v p → Q v H'
      | .exc c => ∀ C H', Same H H' → mg c = some (.ref C) → E (.ref C) none H'
      | .stuck => False) := h
    unfold runF at h'
    revert h'
    cases hg : g (qs.map Slot.val ++ List.replicate (N.length - qs.length) Slot.un) with
    | ret p => exact fun h v H' s r => h v H' s r
    | next ρ' =>
      intro h σ' H' S' _
      cases nw with
      | false => exact h _ _ S'.same .non
      | true => exact absurd hg (hnw rfl _ _)
    | exc c ρ' => exact fun h C σ' H' e S' _ => h C H' S'.same e
    | brk ρ' => exact False.elim
    | cont ρ' => exact False.elim
    | stuck => exact False.elim
/-- from inside a def: what a body's statements need of its context -/
theorem tk_of {N : List Str} {qual : Str} {scope : Scope} {f : Addr} {cdv : Value} {A : Around} {outer : List PySem.Env} {s : Shared} {H : Hp} {E : XK} : L2N.Takes (cxOf (L2N.CX P w) P w K mg base N qual scope f cdv A outer s H E) (fun cls d _ H => E cls d H) := L2N.takes_of rfl rfl rfl rfl
theorem hp_of {N : List Str} {qual : Str} {scope : Scope} {f : Addr} {cdv : Value} {A : Around} {outer : List PySem.Env} {s : Shared} {H : Hp} {E : XK} : PassesOwn (model P w) (cxOf (L2N.CX P w) P w K mg base N qual scope f cdv A outer s H E).A (cxOf (L2N.CX P w) P w K mg base N qual scope f cdv A outer s H E).env (cxOf (L2N.CX P w) P w K mg base N qual scope f cdv A outer s H E).xe := passes_of rfl
end
structure DefT (K : PySem.W.Frag) (mg : Str → Option Value) (x : Str) (st : Stmt) (ps : List Str) (f : Addr) (fd : FuncData) : Prop where
  F : Fun K x x st f fd
  g : mg x = some (.ref f)
  b : L2.Binds K fd ps []
def DefE (K : PySem.W.Frag) (mg : Str → Option Value) (x : Str) (st : Stmt) (ps : List Str) : Prop := ∃ f fd, DefT K mg x st ps f fd
def Okd (P : Program) (w : World) (K : PySem.W.Frag) (mg : Str → Option Value) (base : Heap) (x : Str) (ps : List Str) (k n : Nat) (nw : Bool) (F : List PV → R PV) : Prop :=
  ∃ f fd, mg x = some (.ref f) ∧ PySem.W.keepIn K (.ref f) = true ∧ L2.Binds K fd ps [] ∧ FnOk P w K mg base (L2N.CX P w) k f fd ps (spF K mg n nw F)
section
variable {P : Program} {w : World} {K : PySem.W.Frag} {mg : Str → Option Value} {base : Heap}
theorem def_ok {x : Str} {st : Stmt} {N ps : List Str} {k n : Nat} {nw : Bool} {g : Rho → Out} (T : DefE K mg x st ps) (S : FnScope N ps (defScope st)) (hn : n = ps.length) (hnw : nw = true → ∀ l, ∀ ρ, g l ≠ .next ρ)
    (hbody : ∀ (f : Addr) (cdv : Value) (A : Around) (outer : List PySem.Env) (s : Shared) (H : Hp) (E : XK), Room k (A.deeper (envOfC x (defScope st) s.heap.objs.size f cdv)) →
      BJ (cxOf (L2N.CX P w) P w K mg base N x (defScope st) f cdv A outer s H E) (fun cls d _ H => E cls d H) nw (defBody st) g) :
    Okd P w K mg base x ps (k + 1) n nw (runF N.length g) := by
  obtain ⟨f, fd, T⟩ := T
  exact ⟨f, fd, T.g, T.F.kp, T.b, fn_mk T.F S hn hnw (hbody f)⟩
variable {X : Cx} {W : WX} {e : Expr} {es : List Expr} {pos p : Pos} {fA : Rho → R (List PV)}
theorem aCons_len {f : Rho → R PV} {g : Rho → R (List PV)} {n : Nat} (h : ∀ ρ ps, g ρ = .ok ps → ps.length = n) : ∀ ρ ps, aCons f g ρ = .ok ps → ps.length = n + 1 := by
  intro ρ ps e
  unfold aCons at e
  revert e
  cases f ρ with
  | ok a =>
    rw [R.bind_ok]
    cases hg : g ρ with
    | ok qs =>
      intro e
      cases e
      rw [List.length_cons, h ρ qs hg]
    | exc c => exact fun e => nomatch e
    | stuck => exact fun e => nomatch e
  | exc c => exact fun e => nomatch e
  | stuck => exact fun e => nomatch e
theorem aNil_len : ∀ ρ ps, aNil ρ = .ok ps → ps.length = 0 := by
  intro ρ ps e
  cases e
  rfl
/-- the parts' lengths, read off the syntax -/
inductive ALen : (Rho → R (List PV)) → Nat → Prop where
  | nil : ALen aNil 0
  | cons {f : Rho → R PV} {g : Rho → R (List PV)} {n : Nat} : ALen g n → ALen (aCons f g) (n + 1)
theorem ALen.ok {g : Rho → R (List PV)} {n : Nat} (h : ALen g n) : ∀ ρ ps, g ρ = .ok ps → ps.length = n := by
  induction h with
  | nil => exact aNil_len
  | cons _ ih => exact aCons_len ih
theorem e_callD {x : Str} {k j n : Nat} {nw : Bool} {F : List PV → R PV} {pn : List Str} (h : Okd X.prog X.w X.K X.mg X.base x pn j n nw F) (hr : Room k X.A) (hjk : j ≤ k) (tk : L2N.Takes X W) (hg : Gl X x) (ha : AJ X W .s (e :: es) fA) (hal : ALen fA n) (hlen : n = es.length + 1 := by rfl) (hdb : (x == ("__debug__" : Str)) = false := by decide)
    (he : starEach (e :: es) X.env = (false, eval e X.env) :: starEach es X.env := by rfl) (hpl : (backTo pos (starEach es X.env)).any (·.1) = false := by rfl) : EJ X W (mdR nw) (.Call (.Name x p) (e :: es) [] pos) (eD F fA) := by
  obtain ⟨f, fd, h1, h2, h3, h4⟩ := h
  have q := e_call (p := p) (pos := pos) (dvs := []) (dps := []) (ds := []) h4 (hr.mono hjk) hg h1 h2 h3 .nil (fun _ _ => .nil) tk ha (by rw [hlen]; rfl) (by rw [← hlen]; exact hal.ok) hdb he hpl
  have e' : eD (fun ps => F (ps ++ [])) fA = eD F fA := by
    funext ρ
    unfold eD
    congr
    funext ps
    rw [List.append_nil]
  rw [e'] at q
  exact q
theorem passLN {X : Cx} : Passes (L2N.CX X.prog X.w) X E0 := fun _ _ _ _ _ _ _ h => by
  obtain ⟨_, _, _, _, _, _, _, _, _, _, _, _, z⟩ := h
  exact z.elim
end
/-- the law's own promise: of the script -/
def spLaw (K : PySem.W.Frag) : Sp := fun vs H Q _ => ∃ (a : Addr) (ns : List Int), vs = [.ref a] ∧ SqL K H a (ns.map V.int) ∧ Only H ∧ ns.length ≤ 63 ∧ (∀ z ∈ ns, Builtin.Int.intBits z ≤ 1048576) ∧ ∀ v H', v = .bl true → Q v H'
theorem bits_log {z : Int} (h : Builtin.Int.intBits z ≤ 1048576) : z.natAbs.log2 < 1048577 := by
  unfold Builtin.Int.intBits at h
  split at h
  · rename_i e
    have e : z.natAbs = 0 := by simpa using e
    rw [e, Nat.log2_zero]; omega
  · omega
/-- bits: each of the script's numbers has at most 2 ^ 20 of them -/
theorem law_impB {P : Program} {w : World} {K : PySem.W.Frag} {mg : Str → Option Value} {base : Heap} {k : Nat} {f : Addr} {fd : FuncData} {ps : List Str} {F : List PV → R PV} (hF : ∀ ns : List Int, ns.length ≤ 63 → (∀ z ∈ ns, z.natAbs.log2 < 1048577) → F [.frz (ns.map PV.int)] = .ok (.bl true))
    (h : FnOk P w K mg base (L2N.CX P w) k f fd ps (spF K mg 1 false F)) : FnOk P w K mg base (L2N.CX P w) k f fd ps (spLaw K) := by
  refine h.imp fun vs H Q E ⟨a, ns, e1, hs, ho, hl, hb, q⟩ => ?_
  subst e1
  refine ⟨[.frz (ns.map PV.int)], fun _ => False, fun _ z => z.elim, .cons (.frz ?_) .nil, rfl, ?_⟩
  · rcases hs with (hs | hs) | hs
    · rcases ho a with z | ⟨o, xs, z⟩
      · rw [z] at hs; cases hs
      · rw [z] at hs; cases hs
    · exact .inl ⟨hs, fun z => z⟩
    · exact .inr fun _ => .inr hs
  · rw [hF ns hl fun z hz => bits_log (hb z hz)]
    intro v H' s r
    cases r
    exact q _ _ rfl
theorem cx_none {P : Program} {w : World} {H : Hp} {s : Shared} {e : Value} {s' : Shared} (h : L2N.CX P w [] H s (fun _ _ _ => False) e s') : False := by
  obtain ⟨_, _, _, _, _, _, _, _, _, _, _, _, z⟩ := h
  exact z
end PL
set_option Elab.async false
set_option linter.all false
set_option maxRecDepth 100000
set_option autoImplicit false
namespace PL
open PySem PySem.Spec L2
open PyProof.Rows hiding St
def flatP : PV → Bool
  | .non => true
  | .bl _ => true
  | .int _ => true
  | .str _ => true
  | _ => false
section
variable {K : PySem.W.Frag} {H H2 : Hp} {O : Addr → Prop}
theorem flat_v {v : V} {p : PV} (r : Rep K H O v p) (f : flatP p = true) : flatV v = true := by
  cases r with
  | non => rfl
  | bl b => rfl
  | int i => rfl
  | str s => rfl
  | lst _ _ _ => cases f
  | tup _ _ => cases f
  | frz _ => cases f
  | dct _ _ | dt _ _ | obj _ _ _ _ _ => cases f
theorem flat_eq {v w : V} {p q : PV} (r : Rep K H O v p) (s : Rep K H O w q) (f : flatP p = true) (g : flatP q = true) : eqV v w = eqV' p q := by
  cases r with
  | non => cases s with
    | non | bl _ | int _ | str _ => simp only [eqV, eqV']
    | lst _ _ _ | tup _ _ | frz _ | dct _ _ | dt _ _ | obj _ _ _ _ _ => cases g
  | bl b => cases s with
    | non | bl _ | int _ | str _ => simp only [eqV, eqV']
    | lst _ _ _ | tup _ _ | frz _ | dct _ _ | dt _ _ | obj _ _ _ _ _ => cases g
  | int i => cases s with
    | non | bl _ | int _ | str _ => simp only [eqV, eqV']
    | lst _ _ _ | tup _ _ | frz _ | dct _ _ | dt _ _ | obj _ _ _ _ _ => cases g
  | str x => cases s with
    | non | bl _ | int _ | str _ => simp only [eqV, eqV']
    | lst _ _ _ | tup _ _ | frz _ | dct _ _ | dt _ _ | obj _ _ _ _ _ => cases g
  | lst _ _ _ | tup _ _ | frz _ | dct _ _ | dt _ _ | obj _ _ _ _ _ => cases f
theorem flat_in {x : V} {p : PV} (r : Rep K H O x p) (f : flatP p = true) : ∀ {vs : List V} {ps : List PV}, Reps K H O vs ps → ps.all flatP = true → vs.all flatV = true ∧ inV x vs = ps.any fun y => eqV' y p
  | _, _, .nil, _ => ⟨rfl, rfl⟩
  | _, _, .cons h t, hz => by
    rw [List.all_cons, Bool.and_eq_true] at hz
    obtain ⟨h1, h2⟩ := flat_in r f t hz.2
    refine ⟨by rw [List.all_cons, flat_v h hz.1, h1] <;> rfl, ?_⟩
    unfold inV at h2 ⊢
    rw [List.any_cons, List.any_cons, flat_eq h r hz.1 f, h2]
end
def asQ : PV → Option (List PV)
  | .lst l | .tup l | .frz l => some l
  | _ => none
def isLs : PV → Bool
  | .lst _ => true
  | _ => false
def inP (p q : PV) : R PV := match asQ q with
  | some l => if (flatP p && l.all flatP || isLs q && okD 30 p && okD 30 q) = true then .ok (.bl (l.any fun y => eqV' y p)) else .stuck
  | none => .stuck
def notInP (p q : PV) : R PV := match asQ q with
  | some l => if (flatP p && l.all flatP || isLs q && okD 30 p && okD 30 q) = true then .ok (.bl (!l.any fun y => eqV' y p)) else .stuck
  | none => .stuck
theorem inP_exc (p q : PV) (c : Str) : inP p q ≠ .exc c := by unfold inP; split <;> (try split) <;> exact fun z => nomatch z
theorem notInP_exc (p q : PV) (c : Str) : notInP p q ≠ .exc c := by unfold notInP; split <;> (try split) <;> exact fun z => nomatch z
theorem rt_seq {K : PySem.W.Frag} {H H2 : Hp} {O0 : Addr → Prop} {σ : St} {ρ : Rho} {x : V} {p : PV} {l : List PV} (r : RepM K O0 σ ρ .t H H2 x p) (h : asQ p = some l) : ∃ a vs, x = .ref a ∧ (SqL K H2 a vs ∨ SqT K H2 a vs) ∧ Reps K H2 (OO O0 σ ρ) vs l := by
  unfold asQ at h
  split at h
  · cases h
    obtain ⟨a, vs, rfl, h1, r1⟩ := rt_lst r
    exact ⟨a, vs, rfl, .inl (.inl (.inl h1)), r1⟩
  · cases h
    obtain ⟨a, vs, rfl, h1, r1⟩ := rt_tup r
    exact ⟨a, vs, rfl, .inr (sqT_of h1), r1⟩
  · cases h
    obtain ⟨a, ns, rfl, rfl, h1⟩ := rt_frz r
    exact ⟨a, _, rfl, .inl h1, Reps.ofInts ns⟩
  · cases h
theorem rt_flat {K : PySem.W.Frag} {H H2 : Hp} {O0 : Addr → Prop} {σ : St} {ρ : Rho} {x : V} {p : PV} (r : RepM K O0 σ ρ .t H H2 x p) (h : flatP p = true) : Rep K H2 (OO O0 σ ρ) x p := by
  rcases r with r | ⟨_, _, _, _, e, _⟩
  · exact r
  · subst e; cases h
theorem toDs_any (p : PV) : ∀ l : List PV, (toDs l).any (fun z => PyData.eqv z (toD p)) = l.any fun y => eqV' y p
  | [] => rfl
  | q :: l => by rw [toDs, List.any_cons, List.any_cons, eqv_toD, toDs_any p l]
def rInB (K : PySem.W.Frag) (neg : Bool) : R2 := fun x y H Q => rIn K neg x y H Q ∨ ∃ d ds, Dp K H x d ∧ Dp K H y (.list ds) ∧ SeqAt.shaped d = true ∧ SeqAt.shaped (.list ds) = true ∧ Q (.bl (if neg then !(ds.any fun z => PyData.eqv z d) else ds.any fun z => PyData.eqv z d)) H
theorem op_inB {X : Cx} (hu : X.A.units + 65 < cLine) : OpR X (compareOp .In) (rInB X.K false) := op_in_seq.or (op_inD hu)
theorem op_notInB {X : Cx} (hu : X.A.units + 65 < cLine) : OpR X (compareOp .NotIn) (rInB X.K true) := op_notIn_seq.or (op_notInD hu)
theorem s_in (K : PySem.W.Frag) (neg : Bool) {g : PV → PV → R PV} (hg : ∀ p q l, asQ q = some l → g p q = if (flatP p && l.all flatP || isLs q && okD 30 p && okD 30 q) = true then .ok (.bl (if neg then !(l.any fun y => eqV' y p) else l.any fun y => eqV' y p)) else .stuck) (hn : ∀ p q, asQ q = none → g p q = .stuck) : OpS K (rInB K neg) .t .t .s g := by
  intro H0 O0 σ ρ H H2 x y p q Q S s rx ry G
  cases hq : asQ q with
  | none => rw [hn p q hq] at G; exact G.elim
  | some l =>
    rw [hg p q l hq] at G
    split at G
    · rename_i hz
      rw [Bool.or_eq_true] at hz
      rcases hz with hz | hz
      · rw [Bool.and_eq_true] at hz
        obtain ⟨a, vs, rfl, h1, r1⟩ := rt_seq ry hq
        have rx' := rt_flat rx hz.1
        obtain ⟨h2, h3⟩ := flat_in rx' hz.1 r1 hz.2
        exact .inl ⟨a, vs, rfl, h1, flat_v rx' hz.1, h2, by rw [h3]; exact G _ _ (Same.refl _) (.bl _)⟩
      · rw [Bool.and_eq_true, Bool.and_eq_true] at hz
        cases q with
        | lst l' =>
          cases hq
          have d2 := rt_dp ry hz.2
          have s2 := okD_shaped hz.2
          simp only [toD] at d2 s2
          exact .inr ⟨_, _, rt_dp rx hz.1.2, d2, okD_shaped hz.1.2, s2, by rw [toDs_any]; exact G _ _ (Same.refl _) (.bl _)⟩
        | _ => cases hz.1.1
    · exact G.elim
theorem roomIn {k : Nat} {A : Around} (hr : Room k A) : A.units + 65 < cLine := by have := hr.un; omega
section
variable {X : Cx} {W : WX} {e a b c : Expr} {pos p : Pos} {f g : Rho → R PV} {es : List Expr} {fA : Rho → R (List PV)}
theorem t_in (hu : X.A.units + 65 < cLine) (ha : EJ X W .t a f) (hb : EJ X W .t b g) (hm : behindInMarks .In b = false := by rfl) : TJ X W (.Compare a [.In] [b] pos) (tB1 (e2 inP f g)) := t_cmp (op_inB hu) inP_exc (s_in _ false (fun p q l h => by unfold inP; rw [h]; rfl) fun p q h => by unfold inP; rw [h]) ha hb hm
theorem t_notIn (hu : X.A.units + 65 < cLine) (ha : EJ X W .t a f) (hb : EJ X W .t b g) (hm : behindInMarks .NotIn b = false := by rfl) : TJ X W (.Compare a [.NotIn] [b] pos) (tB1 (e2 notInP f g)) := t_cmp (op_notInB hu) notInP_exc (s_in _ true (fun p q l h => by unfold notInP; rw [h]; rfl) fun p q h => by unfold notInP; rw [h]) ha hb hm
/-- a constant of the text's top -/
def GlI (mg : Str → Option Value) (x : Str) (i : Int) : Prop := ∃ t, mg x = some (.int i t)
theorem e_glI {x : Str} {i : Int} (h : GlI X.mg x i) (hg : Gl X x) (hd : (x == ("__debug__" : Str)) = false := by decide) : EJ X W .s (.Name x pos) (eC (.int i)) := by
  obtain ⟨t, h⟩ := h
  exact e_const (pe_glob hg h (v := .int i) ⟨t, rfl⟩ hd) fun _ _ _ => .int i
def GlS (mg : Str → Option Value) (x : Str) (s : Str) : Prop := ∃ t, mg x = some (.str s t)
theorem e_glS {x s : Str} (h : GlS X.mg x s) (hg : Gl X x) (hd : (x == ("__debug__" : Str)) = false := by decide) : EJ X W .s (.Name x pos) (eC (.str s)) := by
  obtain ⟨t, h⟩ := h
  exact e_const (pe_glob hg h (v := .str s) ⟨t, rfl⟩ hd) fun _ _ _ => .str s
end
def NN (g : Rho → Out) : Prop := ∀ l ρ, g l ≠ .next ρ
theorem nn_e {f : Rho → R PV} {k : PV → Rho → Out} (h : ∀ p l ρ, k p l ≠ .next ρ) : NN (sE f k) := by
  intro l ρ e
  unfold sE at e
  revert e
  cases f l with
  | ok p => exact h p l ρ
  | exc c => exact fun e => nomatch e
  | stuck => exact fun e => nomatch e
theorem nn_ret (f : Rho → R PV) : NN (sRet f) := nn_e fun _ _ _ e => nomatch e
theorem nn_seqL {g h : Rho → Out} (a : NN g) : NN (bSeq g h) := by
  intro l ρ e
  unfold bSeq at e
  have n := a l
  revert e n
  cases g l with
  | next ρ1 => exact fun _ n => absurd rfl (n ρ1)
  | _ => exact fun e => nomatch e
theorem nn_seqR {g h : Rho → Out} (a : NN h) : NN (bSeq g h) := by
  intro l ρ e
  unfold bSeq at e
  revert e
  cases g l with
  | next ρ1 => exact fun e => a ρ1 ρ e
  | _ => exact fun e => nomatch e
section
variable {K : PySem.W.Frag} {h : Heap} {mg : Str → Option Value}
theorem defE_mk (X : K.In h) (G : h.Ns mainGlobals mg) {x : Str} {st : Stmt} {ps : List Str} {f : Addr} {od an : Option Addr} {sl : Array (Option Value)} {oc kV dc pm cd ct : Value}
    (a : PySem.W.nsIn K mainGlobals x = some (some (.ref f))) (l : K.lookup f = some ⟨oc, od, .func (PySem.W.fnOf x x (defArgs st) (defBody st) (defScope st) .none kV dc pm an cd ct), sl⟩) (c : PySem.W.codeIn K cd x = true) (k : PySem.W.keepIn K (.ref f) = true)
    (hb : ∀ (kV doc pm : Value) (an : Option Addr) (cdv ct : Value) (us : List Value), us.length = ps.length → bindArgs (PySem.W.fnOf x x (defArgs st) (defBody st) (defScope st) .none kV doc pm an cdv ct) ⟨us, []⟩ = pure (ps.zip us)) : DefE K mg x st ps :=
  ⟨f, _, fun_mk l c k, PySem.W.mg_of X G a, (fun_mk l c k).binds hb⟩
theorem glI_mk (X : K.In h) (G : h.Ns mainGlobals mg) {x : Str} {i : Int} {t : Tok} (a : PySem.W.nsIn K mainGlobals x = some (some (.int i t))) : GlI mg x i := ⟨t, PySem.W.mg_of X G a⟩
theorem glS_mk (X : K.In h) (G : h.Ns mainGlobals mg) {x s : Str} {t : Tok} (a : PySem.W.nsIn K mainGlobals x = some (some (.str s t))) : GlS mg x s := ⟨t, PySem.W.mg_of X G a⟩
theorem excE_mk (X : K.In h) (G : h.Ns mainGlobals mg) {x : Str} {C : Addr} (a : PySem.W.nsIn K mainGlobals x = some (some (.ref C))) (ex : PySem.W.excIn K C [.type "ValueError", .type "Exception", .type "BaseException", .type "object"] "ValueError.__new__" = true)
    (kp : PySem.W.keepIn K (.ref C) = true) (sb : PySem.W.subIn K (.ref C) (.type "BaseException") = some true) (ty : PySem.W.typeIn K (.ref C) = some (.type "type")) : ∃ C, ExcT K mg x C := ⟨C, PySem.W.mg_of X G a, ex, kp, sb, ty⟩
end
end PL
set_option Elab.async false
set_option linter.all false
set_option maxRecDepth 100000
set_option autoImplicit false
namespace PL
open PySem PySem.Spec L2
open PyProof.Rows hiding St
/-- the classes of errors: the one is under the other -/
def subX (c d : Str) : Bool := d == c || d == "LeftError" || d == "ValueError"
/-- a class that isinstance is asked about -/
def ClsQ (K : PySem.W.Frag) (mg : Str → Option Value) (C : Addr) (c d : Str) (u : Value) : Prop := PySem.W.kitOne K (.ref C) u = some (subX c d)
/-- the caught error p, of the class c -/
structure Pn (K : PySem.W.Frag) (mg : Str → Option Value) (p : Addr × Obj) (c : Str) (C : Addr) : Prop where
  g : mg c = some (.ref C)
  x : ExcC K C
  z : L2N.Zn (.ref C) none p.2
  f : ∃ vs, p.2.data = .fields vs
/-- the context bears the caught error a, of the class c -/
def InAir (X : Cx) (a : Addr) (c : Str) : Prop := ∃ oe C, (a, oe) ∈ X.pn ∧ Pn X.K X.mg (a, oe) c C
def isX (i : Nat) (a : Addr) (b : Bool) : Rho → R PV := fun ρ => match ρ[i]? with
  | some (.ex a') => if a' = a then .ok (.bl b) else .stuck
  | _ => .stuck
section
variable {X : Cx} {W : WX} {e en : Expr} {pos p : Pos} {i : Nat} {a : Addr} {c d : Str} {b : Bool}
/-- a name that stands for a class d, u in the heap -/
inductive ClsN (X : Cx) : Expr → Str → Value → Prop where
  | own {x : Str} {C : Addr} {q : Pos} (hg : Gl X x) (hm : X.mg x = some (.ref C)) (hd : (x == ("__debug__" : Str)) = false) : ClsN X (.Name x q) x (.ref C)
  | ty {x : Str} {n : String} {q : Pos} (h : PE X (.Name x q) (tC (.ty n))) : ClsN X (.Name x q) x (.type n)
theorem ClsN.pe {u : Value} (h : ClsN X en d u) : ∃ v, ClsV v u ∧ PE X en (tC v) := by
  cases h with
  | own hg hm hd => exact ⟨_, .own _, pe_glob hg hm (v := .ref _) rfl hd⟩
  | ty h => exact ⟨_, .ty _, h⟩
theorem inst_at {X : Cx} {a C : Addr} {oe : Obj} {s : Shared} (P : Pn X.K X.mg (a, oe) c C) (hget : s.heap.get? a = some oe) : PySem.W.InstAt s.heap a oe C none := by
  obtain ⟨vs, hv⟩ := P.f
  have hz := P.z.zc
  obtain ⟨k1, k2, k3, k4⟩ := oe
  obtain ⟨h1, h2⟩ := hz
  simp only at h1 h2 hv
  subst h1 h2 hv
  exact ⟨hget, rfl, rfl, trivial⟩
theorem call_isX {C : Addr} {oe : Obj} (hp : (a, oe) ∈ X.pn) (P : Pn X.K X.mg (a, oe) c C) : CallR X (.builtin "isinstance") (fun xs H Q => ∃ v u b, xs = [V.ref a, v] ∧ ClsV v u ∧ PySem.W.kitOne X.K (.ref C) u = some b ∧ Q (.bl b) H) := by
  intro pins s σ H xs us Q I r ⟨v, u, b, e1, k, e2, q⟩
  subst e1
  obtain ⟨w1, w2, e3, r1, r2⟩ := vals2 r
  subst e3
  cases (show w1 = Value.ref a from r1)
  have e4 := k.eq r2
  subst e4
  have J := inst_at P (I.pin (a, oe) (List.mem_append_left _ hp)).1
  exact PySem.W.kia_one (PySem.W.handS_kitx_exc P.x.hg P.x.hk P.x.hs P.x.hd P.x.ha P.x.hn P.x.ht P.x.hm) I.kIn J e2 (fun z => nomatch z) fun tk => ⟨.bl b, H, I.tok tk, rfl, q⟩
theorem exs_at {K : PySem.W.Frag} {H0 H : Hp} {O0 : Addr → Prop} {σ : St} {ρ : Rho} (S : StR K H0 O0 H σ ρ) (h : ρ[i]? = some (.ex a)) : σ[i]? = some (some (.ref a)) := S.exs i a h
/-- isinstance(e, D), e the caught error -/
theorem e_isX {u : Value} (A : InAir X a c) (mg : X.mg "isinstance" = none) (hg : Gl X "isinstance") (ho : PE X e (tVar i)) (hn : ClsN X en d u) (hk : ∀ C, X.mg c = some (.ref C) → ClsQ X.K X.mg C c d u) (he : starEach [e, en] X.env = (false, eval e X.env) :: starEach [en] X.env := by rfl) (he2 : starEach [en] X.env = (false, eval en X.env) :: starEach [] X.env := by rfl) (hpl : (backTo pos (starEach [en] X.env)).any (·.1) = false := by rfl) :
    EJ X W .s (.Call (.Name "isinstance" p) [e, en] [] pos) (isX i a (subX c d)) := by
  obtain ⟨oe, C, hp, P⟩ := A
  obtain ⟨v, hv, hpe⟩ := hn.pe
  refine pe_imp (pe_callB (call_isX hp P) hg mg PyProof.Rows.boot_isinstance (pa_cons ho (pa_cons hpe pa_nil he2) he) (by decide) (by decide) he hpl) fun σ H Q ⟨H0, O0, ρ, S, G⟩ => ?_
  unfold isX at G
  split at G
  · rename_i a' ha
    split at G
    · rename_i ea
      subst ea
      exact ⟨.ref a', exs_at S ha, v, u, _, rfl, hv, hk C P.g, G _ _ (Same.refl _) (.bl _)⟩
    · exact G.elim
  · exact G.elim
end
/-- what such a def promises, of the error p -/
structure FnX (P : Program) (w : World) (K : PySem.W.Frag) (mg : Str → Option Value) (base : Heap) (CX : CXT) (k : Nat) (f : Addr) (fd : FuncData) (ps : List Str) (p : Addr × Obj) (sp : Sp) : Prop where
  len : ∀ vs H Q E, sp vs H Q E → vs.length = ps.length
  run : ∀ (A : Around) (outer : List PySem.Env) (s : Shared) (H : Hp) (args : Args) (us : List Value) (vs : List V) (Q : VK) (E : XK), L2H.RoomH k A → L2H.Hot1 A p → L2H.PinOk outer H s p → Env0 P w K mg base A outer s H → BindsTo s fd args (ps.zip us) → Vals vs us → sp vs H Q E →
    codeAny (model P w) A (.call (.ref f) args) (CR CX outer P w H s Q E) s
section
variable {P : Program} {w : World} {K : PySem.W.Frag} {mg : Str → Option Value} {base : Heap} {CX : CXT}
theorem fnX_of {x qual : Str} {st : Stmt} {f : Addr} {fd : FuncData} {N ps : List Str} {k : Nat} {sp : Sp} {p : Addr × Obj} (F : Fun K x qual st f fd) (S : FnScope N ps (defScope st)) (len : ∀ vs H Q E, sp vs H Q E → vs.length = ps.length)
    (hbody : ∀ (cdv : Value) (A : Around) (outer : List PySem.Env) (s : Shared) (H : Hp) (vs : List V) (Q : VK) (E : XK), L2H.Hot1 A p → L2H.RoomH k (A.deeper (envOfC qual (defScope st) s.heap.objs.size f cdv)) → sp vs H Q E →
      ∃ t, PSs (L2H.cxH CX P w K mg base N qual (defScope st) f cdv A outer s H E p) (defBody st) t ∧ t { nx := fun _ H' => Q .non H', rt := Q } (L2.start N vs) H) : FnX P w K mg base CX (k + 1) f fd ps p sp := by
  obtain ⟨oc, od, kV, doc, pm, an, cdv, ct, osl, rfl, lk, hcd⟩ := F.ex
  refine ⟨len, fun A outer s H args us vs Q E hr hot hpin e0 hb r hsp => ?_⟩
  have hl := len vs H Q E hsp
  have Kin : K.In s.heap := e0.mod.kin.keeps (fun b o e => (e0.bs b o e).1)
  have lim : s.heap.NoLimit := e0.mod.nolimit.keeps (fun b o e => (e0.bs b o e).1)
  have hkind : ∀ y ∈ ps.zip us, (defScope st).names.lookup y.1 = some .local ∨ ((defScope st).names.lookup y.1 = some .cell ∧ ((cellsFrom (s.heap.objs.size + 1) (defScope st).names []).lookup y.1).isSome = true) := fun ⟨n, v⟩ hy =>
    (S.par n (List.of_mem_zip hy).1).elim .inl fun q => .inr ⟨q, PySem.W.cellsFrom_some _ _ _ (.inl q)⟩
  refine codeAny_call_function hr.depth (Kin _ _ lk) rfl S.co S.gen rfl (PySem.W.codeRec_of Kin hcd) (hb _ _ _ _ ?_)
  refine wpAny_newFunctionEnv_cells S.kind hkind (fun env he s1 ic => ?_)
  subst he
  refine ⟨lim.keeps ic.toInCall.keep, codeAny_func ?_⟩
  obtain ⟨t, ht, hq⟩ := hbody cdv A outer s H vs Q E hot (hr.deeper _) hsp
  have I := L2H.inv_startH (CX := CX) (E := E) (base := base) (mg := mg) S hpin e0 hl r ic
  refine wpAny_mono (ht.run [] s1 _ H _ I hq) ?_ (fun e s' h => h)
  intro fl s' h
  have fin : ∀ {σ' : St} {H' : Hp} {v : V} {u : Value}, Inv (L2H.cxH CX P w K mg base N qual (defScope st) f cdv A outer s H E p) [] σ' H' s' → RelV v u → Q v H' → CE outer P w H s Q u s' :=
    fun {σ' H' v u} J rv q => ⟨v, H', J.os, J.bare, J.base, J.hok, rv, q⟩
  cases fl with
  | ret u =>
    obtain ⟨v, σ', H', J, rv, q⟩ := h
    exact fin J rv q
  | next =>
    obtain ⟨σ', H', J, q⟩ := h
    exact fin (v := V.non) (u := Value.none) J rfl q
  | brk => exact False.elim h.choose_spec.choose_spec.2
  | cont => exact False.elim h.choose_spec.choose_spec.2
theorem run_X {X : Cx} {k : Nat} {f : Addr} {fd : FuncData} {ps : List Str} {sp : Sp} {E : XK} {p : Addr × Obj} {pins : List (Addr × Obj)} {σ : St} {H : Hp} {s : Shared} {Q : VK} {us : List Value} {vs : List V} (F : FnX X.prog X.w X.K X.mg X.base CX k f fd ps p sp) (hr : L2H.RoomH k X.A) (hot : L2H.Hot1 X.A p) (hp : p ∈ X.pn) (hb : L2.Binds X.K fd ps [])
    (hx : ∀ (pins : List (Addr × Obj)) (H : Hp) (s : Shared) (e : Value) (s' : Shared), Inv X pins σ H s → CX X.stack H s E e s' → X.xe e s') (I : Inv X pins σ H s) (r : Vals vs us) (h : sp vs H Q E) : wpAny (model X.prog X.w) X.A (call (.ref f) us) (EP X pins σ Q) X.xe s := by
  have hl : us.length = ps.length := by rw [← r.length]; exact F.len vs H Q E h
  have b := hb s us I.kIn (by rw [List.append_nil]; exact hl)
  rw [List.append_nil] at b
  have pn := I.pin p (List.mem_append_left _ hp)
  have hpin : L2H.PinOk X.stack H s p := ⟨pn.1, pn.2.1, fun hm => (List.mem_cons.mp (I.stkSub p.1 hm)).elim pn.2.2.1 pn.2.2.2.1, pn.2.2.2.2⟩
  refine wpAny_call (codeAny_mono (F.run X.A X.stack s H ⟨us, []⟩ us vs Q E hr hot hpin I.env0 b r h) ?_)
  intro res s' hq
  cases res with
  | error e => exact hx pins H s e s' I hq
  | ok fl =>
    cases fl with
    | ret u => exact I.after hq
    | next => exact hq.elim
    | brk => exact hq.elim
    | cont => exact hq.elim
/-- of the caught error alone -/
def spX (K : PySem.W.Frag) (mg : Str → Option Value) (nw : Bool) (a : Addr) (F : R PV) : Sp := fun vs H Q _ =>
  ∃ O, (∀ b, O b → H b ≠ none) ∧ vs = [.ref a] ∧ (match F with
    | .ok p => ∀ v H', Same H H' → RepR K O nw H H' v p → Q v H'
    | _ => False)
/-- n slots, the first of them the error's -/
def runX (n : Nat) (g : Rho → Out) (a : Addr) : R PV := match g (.ex a :: List.replicate (n - 1) Slot.un) with
  | .ret p => .ok p
  | .next _ => .ok .non
  | .exc c _ => .exc c
  | _ => .stuck
theorem startX {H : Hp} {O : Addr → Prop} {N : List Str} {a : Addr} (hN : 0 < N.length) (al : ∀ b, O b → H b ≠ none) : StR K H O H (L2.start N [.ref a]) (.ex a :: List.replicate (N.length - 1) Slot.un) := by
  have noown : ∀ (i : Nat) qs, (Slot.ex a :: List.replicate (N.length - 1) Slot.un)[i]? ≠ some (.own qs) := fun i qs e => by
    have := List.mem_of_getElem? e
    rcases List.mem_cons.mp this with z | z
    · cases z
    · cases (List.mem_replicate.mp z).2
  refine ⟨by unfold L2.start; simp, Same.refl H, al, fun i qs h => absurd h (noown i qs), fun i j b qs rs h => absurd h (noown i qs), fun i p h => ?_, fun i b h => ?_, fun i b l h => by
    have := List.mem_of_getElem? h
    rcases List.mem_cons.mp this with z | z
    · cases z
    · cases (List.mem_replicate.mp z).2⟩
  · have := List.mem_of_getElem? h
    rcases List.mem_cons.mp this with z | z
    · cases z
    · cases (List.mem_replicate.mp z).2
  · cases i with
    | zero => cases h; rfl
    | succ i =>
      have := List.mem_of_getElem? (show (List.replicate (N.length - 1) Slot.un)[i]? = some (.ex b) from h)
      cases (List.mem_replicate.mp this).2
theorem fnX_mk {x qual : Str} {st : Stmt} {f : Addr} {fd : FuncData} {N : List Str} {e0 : Str} {k : Nat} {nw : Bool} {g : Rho → Out} {p : Addr × Obj} (F : Fun K x qual st f fd) (S : FnScope N [e0] (defScope st)) (hN : 0 < N.length) (hnw : nw = true → ∀ l, ∀ ρ, g l ≠ .next ρ)
    (hbody : ∀ (cdv : Value) (A : Around) (outer : List PySem.Env) (s : Shared) (H : Hp) (E : XK), L2H.Hot1 (A.deeper (envOfC qual (defScope st) s.heap.objs.size f cdv)) p → L2H.RoomH k (A.deeper (envOfC qual (defScope st) s.heap.objs.size f cdv)) →
      BJ (L2H.cxH (L2N.CX P w) P w K mg base N qual (defScope st) f cdv A outer s H E p) (fun _ _ _ _ => False) nw (defBody st) g) :
    FnX P w K mg base (L2N.CX P w) (k + 1) f fd [e0] p (spX K mg nw p.1 (runX N.length g p.1)) := by
  refine fnX_of F S (fun vs H Q E h => ?_) (fun cdv A outer s H vs Q E hot hr h => ?_)
  · obtain ⟨_, _, e, _⟩ := h
    rw [e]; rfl
  · obtain ⟨O, al, e, h⟩ := h
    subst e
    refine ⟨_, hbody cdv A outer s H E ⟨hot.1, hot.2⟩ hr, H, O, _, startX hN al, ?_⟩
    unfold runX at h
    revert h
    cases hg : g (.ex p.1 :: List.replicate (N.length - 1) Slot.un) with
    | ret q => exact fun h v H' s r => h v H' s r
    | next ρ' =>
      intro h σ' H' S' _
      cases nw with
      | false => exact h _ _ S'.same .non
      | true => exact absurd hg (hnw rfl _ _)
    | exc c ρ' => exact fun h => h.elim
    | brk ρ' => exact fun h => h.elim
    | cont ρ' => exact fun h => h.elim
    | stuck => exact fun h => h.elim
/-- the text's def x, called with a caught error of the class c: F a is what it hands back -/
def OkX (P : Program) (w : World) (K : PySem.W.Frag) (mg : Str → Option Value) (base : Heap) (x : Str) (e0 : Str) (k : Nat) (nw : Bool) (c : Str) (F : Addr → R PV) : Prop :=
  ∃ f fd, mg x = some (.ref f) ∧ PySem.W.keepIn K (.ref f) = true ∧ L2.Binds K fd [e0] [] ∧ ∀ (p : Addr × Obj) C, Pn K mg p c C → FnX P w K mg base (L2N.CX P w) k f fd [e0] p (spX K mg nw p.1 (F p.1))
theorem def_okX {x : Str} {st : Stmt} {N : List Str} {e0 : Str} {k : Nat} {nw : Bool} {c : Str} {g : Addr → Rho → Out} (T : DefE K mg x st [e0]) (S : FnScope N [e0] (defScope st)) (hN : 0 < N.length) (hnw : nw = true → ∀ a l, ∀ ρ, g a l ≠ .next ρ)
    (hbody : ∀ (f : Addr) (cdv : Value) (A : Around) (outer : List PySem.Env) (s : Shared) (H : Hp) (E : XK) (p : Addr × Obj) (C : Addr), Pn K mg p c C → L2H.Hot1 (A.deeper (envOfC x (defScope st) s.heap.objs.size f cdv)) p → L2H.RoomH k (A.deeper (envOfC x (defScope st) s.heap.objs.size f cdv)) →
      BJ (L2H.cxH (L2N.CX P w) P w K mg base N x (defScope st) f cdv A outer s H E p) (fun _ _ _ _ => False) nw (defBody st) (g p.1)) :
    OkX P w K mg base x e0 (k + 1) nw c (fun a => runX N.length (g a) a) := by
  obtain ⟨f, fd, T⟩ := T
  exact ⟨f, fd, T.g, T.F.kp, T.b, fun p C hc => fnX_mk T.F S hN (fun z => hnw z p.1) fun cdv A outer s H E hot hr => hbody f cdv A outer s H E p C hc hot hr⟩
end
/-- the call of such a def -/
def hotC (i : Nat) (a : Addr) (F : Addr → R PV) : Rho → R PV := fun ρ => match ρ[i]? with
  | some (.ex a') => if a' = a then (match F a with
    | .ok p => .ok p
    | _ => .stuck) else .stuck
  | _ => .stuck
section
variable {X : Cx} {W : WX} {e : Expr} {pos q : Pos} {i : Nat} {a : Addr} {c : Str}
theorem e_hot {m : Md} {x e0 : Str} {k j : Nat} {nw : Bool} {F : Addr → R PV} {p : Addr × Obj} {C : Addr} (hp : p ∈ X.pn) (P : Pn X.K X.mg p c C) (hot : L2H.Hot1 X.A p) (hxe : X.xe = fun _ _ => False) (h : OkX X.prog X.w X.K X.mg X.base x e0 j nw c F) (hr : L2H.RoomH k X.A) (hjk : j ≤ k) (hg : Gl X x) (ho : PE X e (tVar i)) (hdb : (x == ("__debug__" : Str)) = false := by decide)
    (he : starEach (e :: []) X.env = (false, eval e X.env) :: starEach [] X.env := by rfl) (hpl : (backTo pos (starEach [] X.env)).any (·.1) = false := by rfl) (hm : mdR nw = m := by rfl) : EJ X W m (.Call (.Name x q) [e] [] pos) (hotC i p.1 F) := by
  subst hm
  obtain ⟨f, fd, h1, h2, h3, h4⟩ := h
  refine ⟨fun pins s σ H Q I ⟨H0, O0, ρ, S, G⟩ => ?_⟩
  unfold hotC at G
  split at G
  · rename_i a' ha
    split at G
    · rename_i ea
      subst ea
      split at G
      · rename_i v0 hv
        refine wpAny_Call_Name_kw (ld_glob I hg h1 ?_ hdb)
        refine PySem.W.callWith_K (h₀ := X.base) I.ok.mod.kin h2 (thn ((pa_cons ho pa_nil he).run pos pins s σ H (fun vs H1 => vs = [V.ref p.1] ∧ H1 = H) I ⟨_, exs_at S ha, rfl, rfl⟩) fun us s1 ⟨vs, H1, I1, r, e1, e2⟩ => ⟨I1.kIn, ?_⟩) he hpl
        subst e1 e2
        have Fx := h4 p C P
        rw [hv] at Fx
        refine run_X (E := fun _ _ _ => False) Fx (hr.mono hjk) hot hp h3 (fun _ _ _ _ _ _ cx => ?_) I1 r ⟨OO O0 σ ρ, fun b z => S.there z, rfl, fun v H' s' r' => ?_⟩
        · obtain ⟨_, _, _, _, _, _, _, _, _, _, _, _, z⟩ := cx
          exact z.elim
        · refine G v H' s' ?_
          cases nw with
          | false => exact r'
          | true => exact r'
      · exact G.elim
    · exact G.elim
  · exact G.elim
end
/-- behind the suite -/
def behindX (i : Nat) : Out → Out
  | .next ρ => .next (ρ.set i .un)
  | .brk ρ => .brk (ρ.set i .un)
  | .cont ρ => .cont (ρ.set i .un)
  | .ret p => .ret p
  | _ => .stuck
open Classical in
noncomputable def tryX (i : Nat) (su : Addr → Rho → Out) (ρ : Rho) : Out := if h : ∃ o, ∀ a, behindX i (su a (ρ.set i (.ex a))) = o then h.choose else .stuck
theorem tryX_of {i : Nat} {su : Addr → Rho → Out} {ρ : Rho} {o : Out} (h : ∀ a, behindX i (su a (ρ.set i (.ex a))) = o) : tryX i su ρ = o := by
  have hx : ∃ o, ∀ a, behindX i (su a (ρ.set i (.ex a))) = o := ⟨o, h⟩
  unfold tryX
  rw [dif_pos hx]
  exact (hx.choose_spec 0).symm.trans (h 0)
theorem tryX_at {i : Nat} {su : Addr → Rho → Out} {ρ : Rho} (h : tryX i su ρ ≠ .stuck) (a : Addr) : behindX i (su a (ρ.set i (.ex a))) = tryX i su ρ := by
  by_cases hx : ∃ o, ∀ a, behindX i (su a (ρ.set i (.ex a))) = o
  · obtain ⟨o, ho⟩ := hx
    rw [tryX_of ho, ho a]
  · unfold tryX at h
    rw [dif_neg hx] at h
    exact absurd rfl h
/-- the context of the suite -/
def suiteC (X : Cx) (a : Addr) (pn : List (Addr × Obj)) : Cx := X.suite a pn
theorem roomS {X : Cx} {k : Nat} {a : Addr} {pn : List (Addr × Obj)} (hr : Room k X.A) : L2H.RoomH k (suiteC X a pn).A := ⟨hr.dp, hr.un⟩
/-- cs: the classes that the clause may take -/
noncomputable def sTry (i : Nat) (cs : List Str) (body : Rho → Out) (su : Str → Addr → Rho → Out) : Rho → Out := fun ρ => match body ρ with
  | .exc c ρ' => if c ∈ cs then tryX i (su c) ρ' else .stuck
  | o => o
section
variable {X : Cx} {W : WX} {nw : Bool} {x n : Str} {cv : Value} {i : Nat} {body suite : List Stmt} {b₀ : Stmt} {np pos pos' : Pos} {g : Rho → Out} {su : Str → Addr → Rho → Out} {cs : List Str}
theorem s_try (hs : X.stack = X.env :: X.outer) (hf : X.env.frame = some X.env.locals) (hN : X.N.Nodup) (hi : X.N[i]? = some n) (hln : X.env.kindOf n = some .local) (hc : Names X x cv) (tk : L2N.Takes X W)
    (hex : ∀ c ∈ cs, ∀ C, X.mg c = some (.ref C) → PySem.W.exmOne X.K (.ref C) cv = some true ∧ ExcC X.K C)
    (hb : ∀ (W' : WX) (pn : List (Addr × Obj)) (xe : Value → Shared → Prop), L2N.Takes (X.tr pn xe) W' → PassesOwn (model X.prog X.w) X.A X.env xe → BJ (X.tr pn xe) W' nw body g)
    (hsu : ∀ (p : Addr × Obj) (pn : List (Addr × Obj)) (c : Str) (C : Addr), c ∈ cs → Pn X.K X.mg p c C → L2H.Hot1 (X.A.mark (some (.ref p.1))) p → BJ (suiteC X p.1 (p :: pn)) (fun _ _ _ _ => False) nw (b₀ :: suite) (su c p.1)) :
    SJ X W nw (.Try body [.ExceptHandler (some (.Name x np)) (some n) (b₀ :: suite) pos'] [] [] pos) (sTry i cs g su) := by
  refine ps_imp (L2N.ps_try_as (tb := fun W' => tS X.K X.mg W' nw g) (ts := fun a cls d D σ H => ∃ c C, c ∈ cs ∧ cls = .ref C ∧ d = none ∧ X.mg c = some (.ref C) ∧ ExcC X.K C ∧ tS X.K X.mg (fun _ _ _ _ => False) nw (su c a) D σ H) hs hf hN hi hln hc tk hb (fun a oe cls d pn hz hv => ⟨fun pins s σ H D I ⟨c, C, hcs, e1, e2, hm, hC, h⟩ => ?_⟩)) fun D σ H ⟨H0, O0, ρ, S, G⟩ => ⟨H0, O0, ρ, S, ?_⟩
  · subst e1 e2
    obtain ⟨vs, hv'⟩ := hv
    exact (hsu (a, oe) pn c C hcs ⟨hm, hC, hz, vs, hv'⟩ ⟨rfl, vs, hv', hz.2.2 vs hv'⟩).run pins s σ H D I h
  · unfold sTry at G
    revert G
    cases g ρ with
    | next ρ' => exact fun G => G
    | brk ρ' => exact fun G => G
    | cont ρ' => exact fun G => G
    | ret p => exact fun G => G
    | stuck => exact fun G => G
    | exc c ρ' =>
      dsimp only
      split
      · rename_i hcs
        intro G C σ' H' hm S' k'
        obtain ⟨h1, h2⟩ := hex c hcs C hm
        refine ⟨true, h1, fun _ a na => ⟨c, C, hcs, rfl, rfl, hm, h2, ?_⟩, fun z => nomatch z⟩
        have ns : tryX i (su c) ρ' ≠ .stuck := fun z => by rw [z] at G; exact G
        have ea := tryX_at ns a
        rw [← ea] at G
        have S2 : StR X.K H0 O0 H' (σ'.set i (some (.ref a))) (ρ'.set i (.ex a)) := S'.set (s := .ex a) (fun _ z => nomatch z) (fun _ z => nomatch z) fun b z => by cases z; rfl
        have k2 : Kept (OO O0 σ ρ) H (OO O0 (σ'.set i (some (.ref a))) (ρ'.set i (.ex a))) H' := k'.trans (kept_set (s := .ex a) (fun _ z => nomatch z) (Same.refl _))
        refine ⟨H0, O0, _, S2, ?_⟩
        have back : ∀ {σ2 : St} {ρ2 : Rho} {H2 : Hp}, StR X.K H0 O0 H2 σ2 ρ2 → Kept (OO O0 (σ'.set i (some (.ref a))) (ρ'.set i (.ex a))) H' (OO O0 σ2 ρ2) H2 → StR X.K H0 O0 H2 (σ2.set i none) (ρ2.set i .un) ∧ Kept (OO O0 σ ρ) H (OO O0 (σ2.set i none) (ρ2.set i .un)) H2 := fun S3 k3 =>
          ⟨S3.set (s := .un) (fun _ z => nomatch z) (fun _ z => nomatch z), (k2.trans k3).trans (kept_set (s := .un) (fun _ z => nomatch z) (Same.refl _))⟩
        revert G
        cases su c a (ρ'.set i (.ex a)) with
        | next ρ2 => exact fun G σ2 H2 S3 k3 => G _ _ (back S3 k3).1 (back S3 k3).2
        | brk ρ2 => exact fun G σ2 H2 S3 k3 => G _ _ (back S3 k3).1 (back S3 k3).2
        | cont ρ2 => exact fun G σ2 H2 S3 k3 => G _ _ (back S3 k3).1 (back S3 k3).2
        | ret p => exact fun G => G
        | exc c ρ2 => exact fun G => G.elim
        | stuck => exact fun G => G.elim
      · exact fun G => G.elim
end
def KQ (K : PySem.W.Frag) (mg : Str → Option Value) (c d : Str) : Prop := ∀ C D, mg c = some (.ref C) → mg d = some (.ref D) → PySem.W.kitOne K (.ref C) (.ref D) = some (subX c d)
def KE (K : PySem.W.Frag) (mg : Str → Option Value) (c d : Str) : Prop := ∀ C D, mg c = some (.ref C) → mg d = some (.ref D) → PySem.W.exmOne K (.ref C) (.ref D) = some true ∧ ExcC K C
theorem fa_nil {α : Type} {P : α → Prop} : ∀ c ∈ ([] : List α), P c := fun _ h => nomatch h
theorem fa_cons {α : Type} {P : α → Prop} {c : α} {l : List α} (h : P c) (r : ∀ c ∈ l, P c) : ∀ d ∈ c :: l, P d := fun d hd => by
  rcases List.mem_cons.mp hd with e | hd
  · rw [e]; exact h
  · exact r d hd
section
variable {K : PySem.W.Frag} {h : Heap} {mg : Str → Option Value} {c d : Str} {U V' : Addr}
theorem kq_mk (X : K.In h) (G : h.Ns mainGlobals mg) {b : Bool} (a1 : PySem.W.nsIn K mainGlobals c = some (some (.ref U))) (a2 : PySem.W.nsIn K mainGlobals d = some (some (.ref V'))) (k : PySem.W.kitOne K (.ref U) (.ref V') = some b) (hb : b = subX c d) : KQ K mg c d := fun C D h1 h2 => by
  cases h1.symm.trans (PySem.W.mg_of X G a1)
  cases h2.symm.trans (PySem.W.mg_of X G a2)
  rw [← hb]; exact k
theorem subX_VE {c : Str} : subX c "ValueError" = true := by
  unfold subX
  rw [show (("ValueError" : Str) == "ValueError") = true by decide, Bool.or_true]
theorem kv_mk (X : K.In h) (G : h.Ns mainGlobals mg) (a1 : PySem.W.nsIn K mainGlobals c = some (some (.ref U))) (k : PySem.W.kitOne K (.ref U) (.type "ValueError") = some true) : ∀ C, mg c = some (.ref C) → PySem.W.kitOne K (.ref C) (.type "ValueError") = some (subX c "ValueError") := fun C h1 => by
  cases h1.symm.trans (PySem.W.mg_of X G a1)
  rw [subX_VE]
  exact k
theorem ke_mk (X : K.In h) (G : h.Ns mainGlobals mg) (a1 : PySem.W.nsIn K mainGlobals c = some (some (.ref U))) (a2 : PySem.W.nsIn K mainGlobals d = some (some (.ref V'))) (lb : PySem.W.subIn K (.ref V') (.type "BaseException") = some true) (ld : PySem.W.hasDictIn K V' = true) (lt : PySem.W.typeIn K (.ref V') = some (.type "type")) (s : PySem.W.subIn K (.ref U) (.ref V') = some true) (x : ExcC K U) : KE K mg c d := fun C D h1 h2 => by
  cases h1.symm.trans (PySem.W.mg_of X G a1)
  cases h2.symm.trans (PySem.W.mg_of X G a2)
  exact ⟨PySem.W.exm_ref lb ld lt s, x⟩
end
end PL
set_option Elab.async false
set_option linter.all false
set_option maxRecDepth 100000
set_option autoImplicit false
namespace PL
open PySem PySem.Spec L2
open PyProof.Rows hiding St
def DefED (K : PySem.W.Frag) (mg : Str → Option Value) (x : Str) (st : Stmt) (ps : List Str) : Prop :=
  ∃ f fd ds, mg x = some (.ref f) ∧ FunD K x x (defArgs st) (defBody st) (defScope st) [.int 1] [] f fd ∧ L2.Binds K fd ps [] ∧ Vals [V.int 1] ds ∧ L2.Binds K fd ps ds
section
variable {P : Program} {w : World} {K : PySem.W.Frag} {mg : Str → Option Value} {base : Heap}
theorem defED_mk {h : Heap} (X : K.In h) (G : h.Ns mainGlobals mg) {x p q : Str} {st : Stmt} {f T : Addr} {od an td : Option Addr} {sl sl2 : Array (Option Value)} {oc kV dc pm cd ct tc : Value} {m : Nat} {t : Tok}
    (a : PySem.W.nsIn K mainGlobals x = some (some (.ref f))) (l : K.lookup f = some ⟨oc, od, .func (PySem.W.fnOf x x (defArgs st) (defBody st) (defScope st) (.ref T) kV dc pm an cd ct), sl⟩) (c : PySem.W.codeIn K cd x = true) (k : PySem.W.keepIn K (.ref f) = true)
    (lt : K.lookup T = some ⟨tc, td, .seq #[.int 1 t] m, sl2⟩)
    (h2 : ∀ (T : Addr) (kV doc pm : Value) (an : Option Addr) (cdv ct : Value) (us its : List Value), us.length = 2 → its.length = 1 → ∃ k, bindArgs (PySem.W.fnOf x x (defArgs st) (defBody st) (defScope st) (.ref T) kV doc pm an cdv ct) ⟨us, []⟩ = seqItems? (.ref T) >>= k ∧ k (some its.toArray) = pure ([p, q].zip (us ++ its.drop 1)))
    (h1 : ∀ (T : Addr) (kV doc pm : Value) (an : Option Addr) (cdv ct : Value) (us its : List Value), us.length = 1 → its.length = 1 → ∃ k, bindArgs (PySem.W.fnOf x x (defArgs st) (defBody st) (defScope st) (.ref T) kV doc pm an cdv ct) ⟨us, []⟩ = seqItems? (.ref T) >>= k ∧ k (some its.toArray) = pure ([p, q].zip (us ++ its.drop 0))) : DefED K mg x st [p, q] := by
  have F : FunD K x x (defArgs st) (defBody st) (defScope st) [.int 1] [] f (PySem.W.fnOf x x (defArgs st) (defBody st) (defScope st) (.ref T) kV dc pm an cd ct) :=
    ⟨⟨oc, od, _, kV, dc, pm, an, cd, ct, sl, rfl, l, c, .inr ⟨(fun z => nomatch z), T, _, [.int 1 t], m, rfl, lt, rfl, .cons ⟨t, rfl⟩ .nil⟩, .inl rfl⟩, k⟩
  obtain ⟨ds, v1, b1⟩ := F.binds1 1 0 (fun z => nomatch z) rfl h1
  obtain ⟨ds0, v0, b0⟩ := F.binds1 2 1 (fun z => nomatch z) rfl h2
  cases (show Vals [] ds0 from v0)
  exact ⟨f, _, ds, PySem.W.mg_of X G a, F, b0, v1, b1⟩
/-- called with the default -/
def OkD1 (P : Program) (w : World) (K : PySem.W.Frag) (mg : Str → Option Value) (base : Heap) (x : Str) (ps : List Str) (k n : Nat) (nw : Bool) (F : List PV → R PV) : Prop :=
  ∃ f fd ds, mg x = some (.ref f) ∧ PySem.W.keepIn K (.ref f) = true ∧ Vals [V.int 1] ds ∧ L2.Binds K fd ps ds ∧ FnOk P w K mg base (L2N.CX P w) k f fd ps (spF K mg n nw F)
theorem fn_mkD {x qual : Str} {st : Stmt} {f : Addr} {fd : FuncData} {dvs : List V} {N ps : List Str} {k n : Nat} {nw : Bool} {g : Rho → Out} (F : FunD K x qual (defArgs st) (defBody st) (defScope st) dvs [] f fd) (S : FnScope N ps (defScope st)) (hn : n = ps.length) (hnw : nw = true → ∀ l, ∀ ρ, g l ≠ .next ρ)
    (hbody : ∀ (cdv : Value) (A : Around) (outer : List PySem.Env) (s : Shared) (H : Hp) (E : XK), Room k (A.deeper (envOfC qual (defScope st) s.heap.objs.size f cdv)) →
      BJ (cxOf (L2N.CX P w) P w K mg base N qual (defScope st) f cdv A outer s H E) (fun cls d _ H => E cls d H) nw (defBody st) g) :
    FnOk P w K mg base (L2N.CX P w) (k + 1) f fd ps (spF K mg n nw (runF N.length g)) := by
  refine F.ok S (fun vs H Q E h => ?_) (fun cdv A outer s H vs Q E hr h => ?_)
  · obtain ⟨_, _, _, _, e, _⟩ := h
    rw [e, hn]
  · obtain ⟨qs, O, al, r, e, h⟩ := h
    refine ⟨_, hbody cdv A outer s H E hr, H, O, _, start_st al r, ?_⟩
    have h' : (match runF N.length g qs with
      | .ok p => ∀ v H', Same H H' → RepR K O nw H H' v p → Q v H'
      | .exc c => ∀ C H', Same H H' → mg c = some (.ref C) → E (.ref C) none H'
      | .stuck => False) := h
    unfold runF at h'
    revert h'
    cases hg : g (qs.map Slot.val ++ List.replicate (N.length - qs.length) Slot.un) with
    | ret p => exact fun h v H' s r => h v H' s r
    | next ρ' =>
      intro h σ' H' S' _
      cases nw with
      | false => exact h _ _ S'.same .non
      | true => exact absurd hg (hnw rfl _ _)
    | exc c ρ' => exact fun h C σ' H' e S' _ => h C H' S'.same e
    | brk ρ' => exact False.elim
    | cont ρ' => exact False.elim
    | stuck => exact False.elim
theorem def_okD {x : Str} {st : Stmt} {N ps : List Str} {k n : Nat} {nw : Bool} {g : Rho → Out} (T : DefED K mg x st ps) (S : FnScope N ps (defScope st)) (hn : n = ps.length) (hnw : nw = true → ∀ l, ∀ ρ, g l ≠ .next ρ)
    (hbody : ∀ (f : Addr) (cdv : Value) (A : Around) (outer : List PySem.Env) (s : Shared) (H : Hp) (E : XK), Room k (A.deeper (envOfC x (defScope st) s.heap.objs.size f cdv)) →
      BJ (cxOf (L2N.CX P w) P w K mg base N x (defScope st) f cdv A outer s H E) (fun cls d _ H => E cls d H) nw (defBody st) g) :
    Okd P w K mg base x ps (k + 1) n nw (runF N.length g) ∧ OkD1 P w K mg base x ps (k + 1) n nw (runF N.length g) := by
  obtain ⟨f, fd, ds, hm, F, b0, v1, b1⟩ := T
  have q := fn_mkD F S hn hnw (hbody f)
  exact ⟨⟨f, fd, hm, F.kp, b0, q⟩, f, fd, ds, hm, F.kp, v1, b1, q⟩
end
section
variable {X : Cx} {W : WX} {e : Expr} {es : List Expr} {pos p : Pos} {fA : Rho → R (List PV)}
theorem e_callD1 {x : Str} {k j n : Nat} {nw : Bool} {F : List PV → R PV} {pn : List Str} (h : OkD1 X.prog X.w X.K X.mg X.base x pn j n nw F) (hr : Room k X.A) (hjk : j ≤ k) (tk : L2N.Takes X W) (hg : Gl X x) (ha : AJ X W .s (e :: es) fA) {m : Nat} (hal : ALen fA m) (hlen : n = es.length + 1 + 1 := by rfl) (hm : m = es.length + 1 := by rfl) (hdb : (x == ("__debug__" : Str)) = false := by decide)
    (he : starEach (e :: es) X.env = (false, eval e X.env) :: starEach es X.env := by rfl) (hpl : (backTo pos (starEach es X.env)).any (·.1) = false := by rfl) : EJ X W (mdR nw) (.Call (.Name x p) (e :: es) [] pos) (eD (fun ps => F (ps ++ [.int 1])) fA) := by
  obtain ⟨f, fd, ds, h1, h2, h3, h4, h5⟩ := h
  exact e_call (p := p) (pos := pos) (dvs := [.int 1]) (dps := [.int 1]) (ds := ds) h5 (hr.mono hjk) hg h1 h2 h4 h3 (fun _ _ => .cons (.int 1) .nil) tk ha hlen (by rw [← hm]; exact hal.ok) hdb he hpl
end
section
variable {prog : Program} {w : World} {A : Around} {E : Value → Shared → Prop} {s : Shared}
theorem list_end_hot {it l x1 : Addr} {i : Nat} {items : Array Value} {Q : Option Value → Shared → Prop} (hot : HotX.HotAt A x1 s.heap) (hit : s.heap.IsListIter it l i) (hl : s.heap.IsList l items) (hx : items[i]? = none)
    (hQ : ∀ h', (∀ b o, b ≠ it → s.heap.get? b = some o → h'.get? b = some o) → Q none { s with heap := h' }) : wpAny (model prog w) A (pyNext (.ref it)) Q E s := by
  have ty := hit.typeIs
  obtain ⟨o, ho, hc, hd⟩ := id hit
  obtain ⟨ol, hol, h0, nl, hdl⟩ := hl
  obtain ⟨hh, o1, vs1, h1, d1, c1⟩ := hot
  have ne : it ≠ x1 := fun z => by
    rw [← z, ho] at h1
    cases h1
    rw [hd] at d1
    cases d1
    cases c1
  unfold pyNext
  refine wpAny_bind (wpAny_attempt (wpAny_callSpecial?_slot (name := Str.ofString "__next__") ty slot_listiter_next (wpAny_call_entry slot_listiter_next ty entry_listiter_next ?_ (args_listiter_next _))))
  (show wpAny _ _ (field (.ref it) 0 >>= _) _ _ s); (refine wpAny_bind (wpAny_field ho hd (x := .ref l) rfl ?_))
  (show wpAny _ _ (if (Value.ref l == Value.none) = true then _ else _) _ _ s); (rw [if_neg (show ¬ ((Value.ref l == Value.none) = true) from Bool.false_ne_true)])
  (show wpAny _ _ (field (.ref it) 1 >>= _) _ _ s); (refine wpAny_bind (wpAny_field ho hd (x := .int i 0) rfl ?_))
  (show wpAny _ _ (seqItems? (.ref l) >>= _) _ _ s); (refine wpAny_bind (wpAny_seqItems hol hdl ?_)); (simp only [Int.toNat_natCast, hx])
  (refine wpAny_bind (wpAny_rule (wpAny_bind (wpAny_setField ho hd (by simp) ?_)))); (show wpAny _ _ (newExc (.type "StopIteration") [] >>= _) _ _ _)
  (refine wpAny_bind ?_); (simp only [newExc, newTuple]); (refine wpAny_bind (wpAny_newObj_type ?_ (by size_fits)))
  (refine wpAny_bind (m := firstArgMember _ _) (wpAny_of_eq (a := Value.none) (by first | rfl | (simp only [firstArgMember]; rfl)) ?_)); (refine wpAny_newObj_type ?_ (by size_fits))
  refine HotX.raiseNew_hot (x1 := x1) ⟨hh, o1, vs1, Heap.get?_push_of_some _ (Heap.get?_push_of_some _ ((Heap.get?_update_other _ _ ne).trans h1)), d1, c1⟩ (Nat.ne_of_lt (Heap.lt_size (Heap.get?_push_of_some _ ((Heap.get?_update_other _ _ ne).trans h1)))) (Heap.get?_push_size _ rfl) rfl (by first | (simp; done) | (simp; omega) | (simp only [Array.size_append]; simp; omega)) ?_
  refine wpAny_bind (wpAny_isInstance (T := "StopIteration") (b := true) ⟨_, Heap.get?_update_self _ (Heap.get?_push_size _ rfl) rfl, rfl⟩ isSubtype_stop (wpAny_pure (hQ _ fun b o hb e => ?_)))
  have e1 := Heap.get?_push_of_some { cls := .type "tuple", data := .seq #[] } ((Heap.get?_update_other s.heap (Obj.mapFields (·.setIfInBounds 0 .none)) (Ne.symm hb)).trans e)
  refine (Heap.get?_update_other _ _ (Nat.ne_of_gt (Heap.lt_size e1))).trans ?_
  exact Heap.get?_push_of_some _ e1
theorem walks_hot (I ax x1 : Addr) (hne : ax ≠ I) (hx : x1 ≠ I) (items : Array Value) : Walks prog w A I [I, ax, x1] [I] items.size (fun i v => items[i]? = some v) (fun i h => h.IsListIter I ax i ∧ h.IsList ax items ∧ HotX.HotAt A x1 h) where
  sub := fun b hb => by simp at hb; simp [hb]
  frame := fun _ _ _ st hk => ⟨st.1.at fun o e => hk I (by simp) o e, st.2.1.at fun o e => hk ax (by simp) o e, by
    obtain ⟨hh, o, vs, h1, h2, h3⟩ := st.2.2
    exact ⟨hh, o, vs, hk x1 (by simp) o h1, h2, h3⟩⟩
  item := fun i s Q E hi st hQ => by
    refine wpAny_pyNext_list_item st.1 st.2.1 (x := items[i]) (by simp [hi]) (fun h' hit' hs' => ?_)
    obtain ⟨hh, o, vs, h1, h2, h3⟩ := st.2.2
    refine hQ _ h' s.toks (by simp [hi]) ⟨hit', st.2.1.extBut hs'.extBut hne, hh, o, vs, hs'.extBut x1 o hx h1, h2, h3⟩ (fun b o hb e => hs'.extBut b o (fun z => hb (by simp [z])) e)
  done := fun s Q E st hQ => list_end_hot st.2.2 st.1 st.2.1 (by simp) (fun h' he' => hQ h' s.toks (fun b o hb e => he' b o (fun z => hb (by simp [z])) e))
  self := fun _ _ _ _ st hQ => wpAny_pyIter_listiter st.1 hQ
end
section
variable {X : Cx}
theorem cr_anyH {p : Addr × Obj} (hp : p ∈ X.pn) (hot : L2H.Hot1 X.A p) : CallR X (.builtin "any") (rAny X.K) := by
  intro pins s σ H vs us Q I r ⟨a, bs, e0, hs, q⟩
  subst e0
  obtain ⟨its, rv, hl, _⟩ := I.list hs
  rw [Vals.ref1 r]
  have hb := rv.bls
  have hget := (I.pin p (List.mem_append_left _ hp)).1
  obtain ⟨hh, v1, d1, c1⟩ := hot
  have hlt := Heap.lt_size hget
  refine call_any_walk (iter_any hl.isList (fun s₂ e2 st hne => ?_))
  subst e2
  refine ⟨_, _, _, _, _, _, _, rfl, walks_hot (A := X.A.in1) _ a p.1 hne (Nat.ne_of_lt hlt) its.toArray, ⟨st.1, st.2, hh, p.2, v1, Heap.get?_push_of_some _ hget, d1, c1⟩, truth_bools hb, (fun h' tk hk => ?_)⟩
  refine ⟨.bl _, H, I.kept (fun b o eo => hk b o (fun hmem => ?_) (Heap.get?_push_of_some _ eo)), ?_, q⟩
  · rcases List.mem_cons.mp hmem with z | z
    · exact absurd (z ▸ Heap.lt_size eo) (Nat.lt_irrefl _)
    · cases z
  · (show Value.bool _ = Value.bool _); (rw [← L2.any_range, hb, List.size_toArray, List.length_map])
variable {W : WX} {e : Expr} {pos p' : Pos} {fA : Rho → R (List PV)}
theorem e_anyH {p : Addr × Obj} (hp : p ∈ X.pn) (hot : L2H.Hot1 X.A p) (mg : X.mg "any" = none) (hg : Gl X "any") (ha : AJ X W .t [e] fA) (he : starEach [e] X.env = (false, eval e X.env) :: starEach [] X.env := by rfl) : EJ X W .s (.Call (.Name "any" p') [e] [] pos) (eD anyP fA) := e_callB (cr_anyH hp hot) anyP_exc (s_any _) hg mg (by decide +kernel) ha (he := he)
end
end PL
set_option Elab.async false
set_option linter.all false
set_option maxRecDepth 100000
set_option autoImplicit false
namespace PL
open PySem PySem.Spec L2
open PyProof.Rows hiding St
end PL
set_option Elab.async false
set_option linter.all false
set_option maxRecDepth 100000
set_option autoImplicit false
namespace PL
open PySem PySem.Spec L2
open PyProof.Rows hiding St
end PL
set_option Elab.async false
set_option linter.all false
set_option maxRecDepth 100000
set_option autoImplicit false
namespace PL
open PySem PySem.Spec L2
open PyProof.Rows hiding St
/-- an equation that is not taken for a computation -/
theorem nr {α : Sort _} {a b : α} (h : a = b) : a = b := h
section
variable {p q x y : PV} {ρ : Rho} {f g h : Rho → R PV} {i j : Nat} {a b c : Int} {k l : Bool} {ps qs : List PV} {s t : Slot}
@[simp] theorem eC_eq : eC p ρ = .ok p := nr rfl
@[simp] theorem eV0 : eV 0 (.val p :: ρ) = .ok p := nr rfl
@[simp] theorem eVs : eV (i + 1) (s :: ρ) = eV i ρ := by simp [eV]
@[simp] theorem eVo0 : eVo 0 (.val p :: ρ) = .ok p := nr rfl
@[simp] theorem eVo0' : eVo 0 (.own ps :: ρ) = .ok (.lst ps) := nr rfl
@[simp] theorem eVos : eVo (i + 1) (s :: ρ) = eVo i ρ := by simp [eVo]
@[simp] theorem bind1 {α β : Type} (a : α) (k : α → R β) : (R.ok a).bind k = k a := nr rfl
@[simp] theorem bind2 {α β : Type} (c : Str) (k : α → R β) : (R.exc c : R α).bind k = .exc c := nr rfl
@[simp] theorem bind3 {α β : Type} (k : α → R β) : (R.stuck : R α).bind k = .stuck := nr rfl
@[simp] theorem e2_eq {w : PV → PV → R PV} : e2 w f g ρ = (f ρ).bind fun x => (g ρ).bind fun y => w x y := nr rfl
@[simp] theorem e1_eq {w : PV → R PV} : e1 w f ρ = (f ρ).bind w := nr rfl
@[simp] theorem eD_eq {w : List PV → R PV} {fA : Rho → R (List PV)} : eD w fA ρ = (fA ρ).bind w := nr rfl
@[simp] theorem aNil_eq : aNil ρ = .ok [] := nr rfl
@[simp] theorem aCons_eq {fA : Rho → R (List PV)} : aCons f fA ρ = (f ρ).bind fun p => (fA ρ).bind fun ps => .ok (p :: ps) := nr rfl
@[simp] theorem tB1_eq : tB1 f ρ = (f ρ).bind asB := nr rfl
@[simp] theorem asB_eq : asB (.bl k) = .ok k := nr rfl
@[simp] theorem asI_eq : asI (.int a) = .ok a := nr rfl
@[simp] theorem tNt_eq {u : Rho → R Bool} : tNt u ρ = (u ρ).bind fun b => .ok (!b) := nr rfl
@[simp] theorem tAn_eq {u v : Rho → R Bool} : tAn u v ρ = (u ρ).bind fun b => if b = true then v ρ else .ok false := nr rfl
@[simp] theorem tOr_eq {u v : Rho → R Bool} : tOr' u v ρ = (u ρ).bind fun b => if b = true then .ok true else v ρ := nr rfl
@[simp] theorem eAn_eq : eAn f g ρ = (f ρ).bind fun p => (asB p).bind fun b => if b = true then g ρ else .ok (.bl false) := nr rfl
@[simp] theorem eOr_eq : eOr f g ρ = (f ρ).bind fun p => (asB p).bind fun b => if b = true then .ok (.bl true) else g ρ := nr rfl
@[simp] theorem notP_eq : notP (.bl k) = .ok (.bl (!k)) := nr rfl
@[simp] theorem negP_eq : negP (.int a) = .ok (.int (-a)) := nr rfl
@[simp] theorem eIf_eq {u : Rho → R Bool} : eIf u f g ρ = (u ρ).bind fun b => if b = true then f ρ else g ρ := nr rfl
@[simp] theorem eChain_eq {w1 w2 : PV → PV → R PV} : eChain w1 w2 f g h ρ = (f ρ).bind fun x => (g ρ).bind fun y => (w1 x y).bind fun z => (asB z).bind fun k => if k = true then (h ρ).bind fun w => w2 y w else .ok (.bl false) := nr rfl
@[simp] theorem addP_ii : addP (.int a) (.int b) = .ok (.int (a + b)) := nr rfl
@[simp] theorem iadd_ii : intP (fun _ _ => true) (fun a b => PV.int (a + b)) (.int a) (.int b) = .ok (.int (a + b)) := nr rfl
@[simp] theorem subP_ii : subP (.int a) (.int b) = .ok (.int (a - b)) := nr rfl
@[simp] theorem ltP_ii : ltP (.int a) (.int b) = .ok (.bl (decide (a < b))) := nr rfl
@[simp] theorem leP_ii : leP (.int a) (.int b) = .ok (.bl (decide (a ≤ b))) := nr rfl
@[simp] theorem gtP_ii : gtP (.int a) (.int b) = .ok (.bl (decide (b < a))) := nr rfl
@[simp] theorem geP_ii : geP (.int a) (.int b) = .ok (.bl (decide (b ≤ a))) := nr rfl
theorem mulP_ii (h : okMul a b = true) : mulP (.int a) (.int b) = .ok (.int (a * b)) := by
  show (if okMul a b = true then _ else _) = _
  rw [if_pos h]
theorem modP_ii (h : b ≠ 0) : modP (.int a) (.int b) = .ok (.int (a.fmod b)) := by
  show (if decide (b ≠ 0) = true then _ else _) = _
  rw [if_pos (decide_eq_true h)]
theorem modP_pos (h : 0 < b) : modP (.int a) (.int b) = .ok (.int (a % b)) := by
  rw [modP_ii (by omega), Int.fmod_eq_emod_of_nonneg a (by omega)]
theorem log2_lt {n m : Nat} (h : n < 2 ^ m) (hm : 0 < m) : n.log2 < m := by
  by_cases h0 : n = 0
  · subst h0; simpa using hm
  · exact (Nat.log2_lt h0).mpr h
theorem fdivP_ii (h : b ≠ 0) (h2 : b.natAbs < 2 ^ 9000) : fdivP (.int a) (.int b) = .ok (.int (a.fdiv b)) := by
  show (if okDiv a b = true then _ else _) = _
  have h3 : b.natAbs.log2 < 9000 := log2_lt h2 (by omega)
  rw [if_pos]
  show (decide (b ≠ 0) && decide (b.natAbs.log2 < 9000)) = true
  rw [decide_eq_true h, decide_eq_true h3] <;> rfl
theorem okMul_of {m n : Nat} (ha : a.natAbs < 2 ^ m) (hb : b.natAbs < 2 ^ n) (h : m + n ≤ 100000000) (hm : 0 < m) (hn : 0 < n) : okMul a b = true := by
  have h1 := log2_lt ha hm
  have h2 := log2_lt hb hn
  exact decide_eq_true (by omega)
/-- what may be compared -/
@[simp] theorem okD_int {n : Nat} : okD n (.int a) = true := by cases n <;> rfl
@[simp] theorem okD_bl {n : Nat} : okD n (.bl k) = true := by cases n <;> rfl
@[simp] theorem okD_non {n : Nat} : okD n .non = true := by cases n <;> rfl
@[simp] theorem okD_lst {n : Nat} : okD (n + 1) (.lst ps) = ps.all (okD n) := nr rfl
@[simp] theorem okD_tup {n : Nat} : okD (n + 1) (.tup ps) = ps.all (okD n) := nr rfl
@[simp] theorem okD_frz {n : Nat} : okD (n + 1) (.frz ps) = ps.all (okD n) := nr rfl
@[simp] theorem okD_str {n : Nat} {z : Str} : okD n (.str z) = PyData.strOk z := by cases n <;> rfl
@[simp] theorem eqV_ii : eqV' (.int a) (.int b) = (a == b) := by simp only [eqV']
@[simp] theorem eqV_bb : eqV' (.bl k) (.bl l) = (k == l) := by simp only [eqV']
@[simp] theorem eqV_ss {u v : Str} : eqV' (.str u) (.str v) = (u == v) := by simp only [eqV']
@[simp] theorem eqV_ll : eqV' (.lst ps) (.lst qs) = eqVs ps qs := by simp only [eqV']
@[simp] theorem eqV_tt : eqV' (.tup ps) (.tup qs) = eqVs ps qs := by simp only [eqV']
@[simp] theorem eqVs_nn : eqVs [] [] = true := by simp only [eqVs]
@[simp] theorem eqVs_cc : eqVs (p :: ps) (q :: qs) = (eqV' p q && eqVs ps qs) := by simp only [eqVs]
@[simp] theorem eqVs_cn : eqVs (p :: ps) [] = false := by simp only [eqVs]
@[simp] theorem eqVs_nc : eqVs [] (q :: qs) = false := by simp only [eqVs]
theorem eqP_ok (h : okD 30 p = true) (h2 : okD 30 q = true) : eqP p q = .ok (.bl (eqV' p q)) := by
  unfold eqP; rw [h, h2, Bool.and_self, if_pos rfl]
theorem neP_ok (h : okD 30 p = true) (h2 : okD 30 q = true) : neP p q = .ok (.bl (!eqV' p q)) := by
  unfold neP; rw [h, h2, Bool.and_self, if_pos rfl]
@[simp] theorem eqP_ii : eqP (.int a) (.int b) = .ok (.bl (a == b)) := by rw [eqP_ok okD_int okD_int, eqV_ii]
@[simp] theorem neP_ii : neP (.int a) (.int b) = .ok (.bl (!(a == b))) := by rw [neP_ok okD_int okD_int, eqV_ii]
@[simp] theorem eqP_bb : eqP (.bl k) (.bl l) = .ok (.bl (k == l)) := by rw [eqP_ok okD_bl okD_bl, eqV_bb]
@[simp] theorem neP_bb : neP (.bl k) (.bl l) = .ok (.bl (!(k == l))) := by rw [neP_ok okD_bl okD_bl, eqV_bb]
theorem eqVs_ints : ∀ ns ms : List Int, eqVs (ns.map PV.int) (ms.map PV.int) = (ns == ms)
  | [], [] => by simp
  | [], _ :: _ => by simp
  | _ :: _, [] => by simp
  | n :: ns, m :: ms => by simp only [List.map_cons, eqVs_cc, eqV_ii, eqVs_ints ns ms]; rfl
/-- kinds -/
@[simp] theorem isi_ii : isiP "int" (.int a) = .ok (.bl true) := by have e : kitB "int" "int" = some true := by decide +kernel
                                                                    simp only [isiP, kitP, tyN, e]
@[simp] theorem isi_ib : isiP "int" (.bl k) = .ok (.bl true) := by have e : kitB "bool" "int" = some true := by decide +kernel
                                                                   simp only [isiP, kitP, tyN, e]
@[simp] theorem isi_in : isiP "int" .non = .ok (.bl false) := by have e : kitB "NoneType" "int" = some false := by decide +kernel
                                                                 simp only [isiP, kitP, tyN, e]
@[simp] theorem isi_is {z : Str} : isiP "int" (.str z) = .ok (.bl false) := by have e : kitB "str" "int" = some false := by decide +kernel
                                                                               simp only [isiP, kitP, tyN, e]
@[simp] theorem isi_it : isiP "int" (.tup ps) = .ok (.bl false) := by have e : kitB "tuple" "int" = some false := by decide +kernel
                                                                      simp only [isiP, kitP, tyN, e]
@[simp] theorem isi_il : isiP "int" (.lst ps) = .ok (.bl false) := by have e : kitB "list" "int" = some false := by decide +kernel
                                                                      simp only [isiP, kitP, tyN, e]
@[simp] theorem isi_if : isiP "int" (.frz ps) = .ok (.bl false) := by have e : kitB "list" "int" = some false := by decide +kernel
                                                                      simp only [isiP, kitP, tyN, e]
@[simp] theorem isi_id : isiP "int" .dct = .ok (.bl false) := by have e : kitB "dict" "int" = some false := by decide +kernel
                                                                 simp only [isiP, kitP, tyN, e]
@[simp] theorem isi_bi : isiP "bool" (.int a) = .ok (.bl false) := by have e : kitB "int" "bool" = some false := by decide +kernel
                                                                      simp only [isiP, kitP, tyN, e]
@[simp] theorem isi_bb : isiP "bool" (.bl k) = .ok (.bl true) := by have e : kitB "bool" "bool" = some true := by decide +kernel
                                                                    simp only [isiP, kitP, tyN, e]
@[simp] theorem isi_idt {l : List ((Int × Int) × Int)} : isiP "int" (.dt l) = .ok (.bl false) := by
  have e : kitB "dict" "int" = some false := by decide +kernel
  simp only [isiP, kitP, tyN, e]
@[simp] theorem isi_iobj {C : Addr} {m : List Str} {fs : List PV} : isiP "int" (.obj C m fs) = .ok (.bl false) := by simp [isiP, kitP]
def isB : PV → Bool
  | .bl _ => true
  | _ => false
theorem isi_bool : isiP "bool" p = .ok (.bl (isB p)) := by
  have e1 : kitB "NoneType" "bool" = some false := by decide +kernel
  have e2 : kitB "bool" "bool" = some true := by decide +kernel
  have e3 : kitB "int" "bool" = some false := by decide +kernel
  have e4 : kitB "str" "bool" = some false := by decide +kernel
  have e5 : kitB "tuple" "bool" = some false := by decide +kernel
  have e6 : kitB "list" "bool" = some false := by decide +kernel
  have e7 : kitB "dict" "bool" = some false := by decide +kernel
  cases p <;> simp [isiP, kitP, tyN, e1, e2, e3, e4, e5, e6, e7, isB]
/-- whole numbers -/
def isW : PV → Bool
  | .int _ => true
  | _ => false
/-- the body of is_whole, of the laws' own -/
@[simp] theorem isW_int (a : Int) : isW (.int a) = true := rfl
theorem whole_eq : (isiP "int" p).bind (fun x => (asB x).bind fun b => if b = true then (isiP "bool" p).bind notP else .ok (.bl false)) = .ok (.bl (isW p)) := by
  rw [isi_bool]
  cases p <;> simp [isW, isB]
/-- statements -/
@[simp] theorem then_next {k : Rho → Out} : (Out.next ρ).then k = k ρ := nr rfl
@[simp] theorem then_ret {k : Rho → Out} : (Out.ret p).then k = .ret p := nr rfl
@[simp] theorem then_exc {k : Rho → Out} {z : Str} : (Out.exc z ρ).then k = .exc z ρ := nr rfl
@[simp] theorem then_stuck {k : Rho → Out} : Out.stuck.then k = .stuck := nr rfl
@[simp] theorem then_brk {k : Rho → Out} : (Out.brk ρ).then k = .brk ρ := nr rfl
@[simp] theorem then_cont {k : Rho → Out} : (Out.cont ρ).then k = .cont ρ := nr rfl
@[simp] theorem bNil_eq : bNil ρ = .next ρ := nr rfl
@[simp] theorem bSeq_eq {u v : Rho → Out} : bSeq u v ρ = (u ρ).then v := nr rfl
/-- an expression's end within a statement -/
def R.st (r : R PV) (ρ : Rho) (k : PV → Out) : Out := match r with
  | .ok p => k p
  | .exc c => .exc c ρ
  | .stuck => .stuck
@[simp] theorem st_ok {k : PV → Out} : (R.ok p).st ρ k = k p := nr rfl
@[simp] theorem st_exc {k : PV → Out} {z : Str} : (R.exc z).st ρ k = .exc z ρ := nr rfl
@[simp] theorem st_stuck {k : PV → Out} : (R.stuck : R PV).st ρ k = .stuck := nr rfl
@[simp] theorem sE_eq {k : PV → Rho → Out} : sE f k ρ = (f ρ).st ρ fun p => k p ρ := nr rfl
@[simp] theorem sSet_eq : sSet i f ρ = (f ρ).st ρ fun p => .next (ρ.set i (.val p)) := nr rfl
@[simp] theorem sRet_eq : sRet f ρ = (f ρ).st ρ fun p => .ret p := nr rfl
@[simp] theorem sDrop_eq : sDrop f ρ = (f ρ).st ρ fun _ => .next ρ := nr rfl
@[simp] theorem sRaise_eq {z : Str} : sRaise z ρ = .exc z ρ := nr rfl
@[simp] theorem sPass_eq : sPass ρ = .next ρ := nr rfl
@[simp] theorem sTo_eq {w : PV → Rho → Option Rho} : sTo w f ρ = (f ρ).st ρ fun p => match w p ρ with | some ρ' => .next ρ' | none => .stuck := nr rfl
def R.stB (r : R Bool) (ρ : Rho) (k : Bool → Out) : Out := match r with
  | .ok p => k p
  | .exc c => .exc c ρ
  | .stuck => .stuck
@[simp] theorem stB_ok {k : Bool → Out} {b : Bool} : (R.ok b).stB ρ k = k b := nr rfl
@[simp] theorem stB_exc {k : Bool → Out} {z : Str} : (R.exc z).stB ρ k = .exc z ρ := nr rfl
@[simp] theorem stB_stuck {k : Bool → Out} : (R.stuck : R Bool).stB ρ k = .stuck := nr rfl
@[simp] theorem sIf_eq {u : Rho → R Bool} {v w : Rho → Out} : sIf u v w ρ = (u ρ).stB ρ fun b => if b = true then v ρ else w ρ := by
  unfold sIf R.stB
  cases u ρ with
  | ok b => cases b <;> simp
  | exc c => rfl
  | stuck => rfl
def Out.res (o : Out) : R PV := match o with
  | .ret p => .ok p
  | .next _ => .ok .non
  | .exc c _ => .exc c
  | _ => .stuck
@[simp] theorem res_ret : (Out.ret p).res = .ok p := nr rfl
@[simp] theorem res_next : (Out.next ρ).res = .ok .non := nr rfl
@[simp] theorem res_exc {z : Str} : (Out.exc z ρ).res = .exc z := nr rfl
theorem runF_eq {n : Nat} {u : Rho → Out} : runF n u ps = (u (ps.map Slot.val ++ List.replicate (n - ps.length) Slot.un)).res := rfl
@[simp] theorem gN_eq : gN i p ρ = some (ρ.set i (.val p)) := nr rfl
@[simp] theorem gT_eql {w : List PV → Rho → Option Rho} : gT w (.lst ps) ρ = w ps ρ := nr rfl
@[simp] theorem gT_eq {w : List PV → Rho → Option Rho} : gT w (.tup ps) ρ = w ps ρ := nr rfl
@[simp] theorem gsNil_eq : gsNil [] ρ = some ρ := nr rfl
@[simp] theorem gsCons_eq {u : PV → Rho → Option Rho} {w : List PV → Rho → Option Rho} : gsCons u w (p :: ps) ρ = (u p ρ).bind (w ps) := nr rfl
@[simp] theorem sAug0 {w : PV → PV → R PV} : sAug i w f ρ = (match ρ[i]? with
  | some (.val x) => ((f ρ).bind fun y => w x y).st ρ fun z => .next (ρ.set i (.val z))
  | _ => .stuck) := nr rfl
@[simp] theorem lenP_l : lenP [.lst ps] = .ok (.int ps.length) := nr rfl
@[simp] theorem lenP_t : lenP [.tup ps] = .ok (.int ps.length) := nr rfl
@[simp] theorem lenP_f : lenP [.frz ps] = .ok (.int ps.length) := nr rfl
theorem size_ok {n : Nat} (h : n ≤ 1000000) : n ≤ sizeLine := by rw [sizeLine_eq]; omega
theorem lstP_ok (h : ps.length ≤ 1000000) : lstP ps = .ok (.lst ps) := by unfold lstP; rw [if_pos (size_ok h)]
theorem tupP_ok (h : ps.length ≤ 1000000) : tupP ps = .ok (.tup ps) := by unfold tupP; rw [if_pos (size_ok h)]
@[simp] theorem lstP0 : lstP [] = .ok (.lst []) := lstP_ok (by simp)
@[simp] theorem tupP0 : tupP [] = .ok (.tup []) := tupP_ok (by simp)
@[simp] theorem tupP1 : tupP [p] = .ok (.tup [p]) := tupP_ok (by simp)
@[simp] theorem tupP2 : tupP [p, q] = .ok (.tup [p, q]) := tupP_ok (by simp)
@[simp] theorem tupP3 : tupP [p, q, x] = .ok (.tup [p, q, x]) := tupP_ok (by simp)
@[simp] theorem lstP1 : lstP [p] = .ok (.lst [p]) := lstP_ok (by simp)
@[simp] theorem lstP2 : lstP [p, q] = .ok (.lst [p, q]) := lstP_ok (by simp)
@[simp] theorem lstP3 : lstP [p, q, x] = .ok (.lst [p, q, x]) := lstP_ok (by simp)
@[simp] theorem lstP4 : lstP [p, q, x, y] = .ok (.lst [p, q, x, y]) := lstP_ok (by simp)
/-- places -/
theorem atI_at {α : Type} {l : List α} (h0 : 0 ≤ a) : atI l a = l[a.toNat]? := by
  unfold atI ixN
  rw [if_pos h0]
  by_cases h : a < l.length
  · rw [if_pos h]; rfl
  · rw [if_neg h, List.getElem?_eq_none (by omega)]; rfl
theorem ixP_lst (h0 : 0 ≤ a) (h : ps[a.toNat]? = some p) : ixP (.lst ps) (.int a) = .ok p := by unfold ixP; dsimp only; rw [atI_at h0, h]
theorem ixP_tup (h0 : 0 ≤ a) (h : ps[a.toNat]? = some p) : ixP (.tup ps) (.int a) = .ok p := by unfold ixP; dsimp only; rw [atI_at h0, h]
theorem ixP_frz (h0 : 0 ≤ a) (h : ps[a.toNat]? = some p) : ixP (.frz ps) (.int a) = .ok p := by unfold ixP; dsimp only; rw [atI_at h0, h]
@[simp] theorem ixP_t0 : ixP (.tup (p :: ps)) (.int 0) = .ok p := ixP_tup (by omega) rfl
@[simp] theorem ixP_t1 : ixP (.tup (p :: q :: ps)) (.int 1) = .ok q := ixP_tup (by omega) rfl
@[simp] theorem ixP_t2 : ixP (.tup (p :: q :: x :: ps)) (.int 2) = .ok x := ixP_tup (by omega) rfl
@[simp] theorem ixP_l0 : ixP (.lst (p :: ps)) (.int 0) = .ok p := ixP_lst (by omega) rfl
@[simp] theorem ixP_l1 : ixP (.lst (p :: q :: ps)) (.int 1) = .ok q := ixP_lst (by omega) rfl
@[simp] theorem ixP_l2 : ixP (.lst (p :: q :: x :: ps)) (.int 2) = .ok x := ixP_lst (by omega) rfl
end
/-- one turn -/
def turnL (tgt : PV → Rho → Option Rho) (body : Rho → Out) (p : PV) (ρ : Rho) : Out := match tgt p ρ with
  | none => .stuck
  | some ρ1 => body ρ1
theorem forL_inv {tgt : PV → Rho → Option Rho} {body : Rho → Out} (I : Nat → Rho → Prop) : ∀ (items : List PV) (k : Nat) (ρ : Rho), I k ρ →
    (∀ j p ρ, items[j]? = some p → I (k + j) ρ → ∃ ρ', (turnL tgt body p ρ = .next ρ' ∨ turnL tgt body p ρ = .cont ρ') ∧ I (k + j + 1) ρ') → ∃ ρ', forL tgt body items ρ = .next ρ' ∧ I (k + items.length) ρ' := by
  intro items
  induction items with
  | nil => intro k ρ h _; exact ⟨ρ, rfl, h⟩
  | cons p ps ih =>
    intro k ρ h hs
    obtain ⟨ρ1, h1, h2⟩ := hs 0 p ρ rfl h
    obtain ⟨ρ2, h3, h4⟩ := ih (k + 1) ρ1 h2 fun j q ρ' hj hI => by
      have := hs (j + 1) q ρ' (by simpa using hj) (by rw [show k + (j + 1) = k + 1 + j by omega]; exact hI)
      rw [show k + 1 + j + 1 = k + (j + 1) + 1 by omega]
      exact this
    refine ⟨ρ2, ?_, by rw [List.length_cons, show k + (ps.length + 1) = k + 1 + ps.length by omega]; exact h4⟩
    unfold turnL at h1
    unfold forL
    revert h1
    cases tgt p ρ with
    | none => exact fun h1 => by rcases h1 with h1 | h1 <;> cases h1
    | some ρ1' =>
      dsimp only
      intro h1
      rcases h1 with h1 | h1 <;> (rw [h1]; exact h3)
def R.stL (r : R (List PV)) (ρ : Rho) (k : List PV → Out) : Out := match r with
  | .ok p => k p
  | .exc c => .exc c ρ
  | .stuck => .stuck
@[simp] theorem stL_ok {k : List PV → Out} {l : List PV} {ρ : Rho} : (R.ok l).stL ρ k = k l := nr rfl
@[simp] theorem sFor_eq {it : Rho → R (List PV)} {tgt : PV → Rho → Option Rho} {body : Rho → Out} {ρ : Rho} : sFor it tgt body ρ = (it ρ).stL ρ fun items => forL tgt body items ρ := nr rfl
@[simp] theorem iR_eq {g : List PV → R (List PV)} {f : Rho → R (List PV)} {ρ : Rho} : iR g f ρ = (f ρ).bind g := nr rfl
@[simp] theorem iS_eq {f : Rho → R PV} {ρ : Rho} : iS f ρ = (f ρ).bind asS := nr rfl
@[simp] theorem iRv_eq {f : Rho → R PV} {ρ : Rho} : iRv f ρ = (f ρ).bind fun p => (asS p).bind fun l => .ok l.reverse := nr rfl
@[simp] theorem asS_l {l : List PV} : asS (.lst l) = .ok l := nr rfl
@[simp] theorem asS_t {l : List PV} : asS (.tup l) = .ok l := nr rfl
@[simp] theorem asS_f {l : List PV} : asS (.frz l) = .ok l := nr rfl
theorem lcGo_map {tgt : PV → Rho → Option Rho} {elt : Rho → R PV} {ρ : Rho} (φ : PV → PV) : ∀ (items : List PV), (∀ p ∈ items, ∃ ρ', tgt p ρ = some ρ' ∧ elt ρ' = .ok (φ p)) → lcGo tgt cYes elt ρ items = .ok (items.map φ)
  | [], _ => rfl
  | p :: ps, h => by
    obtain ⟨ρ', h1, h2⟩ := h p List.mem_cons_self
    have ih := lcGo_map φ ps fun q hq => h q (List.mem_cons_of_mem _ hq)
    unfold lcGo
    rw [h1]
    dsimp only [cYes]
    rw [h2]
    dsimp only
    rw [ih]
    rfl
theorem eLc_ok {vs : List Nat} {it : Rho → R (List PV)} {tgt : PV → Rho → Option Rho} {test : Rho → R Bool} {elt : Rho → R PV} {ρ : Rho} {items qs : List PV} (h1 : vs.all (notOwn ρ) = true) (h2 : it ρ = .ok items) (h3 : items.length ≤ 1000000) (h4 : lcGo tgt test elt (wipeR ρ vs) items = .ok qs) : eLc vs it tgt test elt ρ = .ok (.lst qs) := by
  unfold eLc
  rw [if_pos h1, h2, bind1, if_pos (size_ok h3), h4]
end PL
namespace PL
open PySem PySem.Spec L2
open PyProof.Rows hiding St
section
variable {a b : Int} {p : PV} {ps : List PV}
theorem fdivP_sm (h : 0 < b) (h2 : b ≤ 1000000000000000000000000000000000000000000000000000000000000) : fdivP (.int a) (.int b) = .ok (.int (a / b)) := fdivP_ii (by omega) (by omega) |>.trans (by rw [Int.fdiv_eq_ediv_of_nonneg a (by omega)])
theorem mulP_sm (h : -1000000000000000000000000000000000000000000000000000000000000 ≤ a) (h2 : a ≤ 1000000000000000000000000000000000000000000000000000000000000) (h3 : -1000000000000000000000000000000000000000000000000000000000000 ≤ b) (h4 : b ≤ 1000000000000000000000000000000000000000000000000000000000000) : mulP (.int a) (.int b) = .ok (.int (a * b)) :=
  mulP_ii (okMul_of (m := 250) (n := 250) (by omega) (by omega) (by omega) (by omega) (by omega))
/-- the item at a place, 0 beyond -/
def nth (l : List Int) (a : Int) : Int := l.getD a.toNat 0
theorem getD_map (ns : List Int) (k : Nat) (h : k < ns.length) : (ns.map PV.int)[k]? = some (.int (ns.getD k 0)) := by
  rw [List.getElem?_map, List.getElem?_eq_getElem h, List.getD_eq_getElem?_getD, List.getElem?_eq_getElem h]
  rfl
theorem ixP_intsF {ns : List Int} (h0 : 0 ≤ a) (h : a < ns.length) : ixP (.frz (ns.map PV.int)) (.int a) = .ok (.int (nth ns a)) := ixP_frz h0 (getD_map ns _ (by omega))
end
end PL
namespace PL
open PySem PySem.Spec L2
open PyProof.Rows hiding St
end PL
namespace PL
open PySem PySem.Spec L2
open PyProof.Rows hiding St
end PL
set_option Elab.async false
set_option linter.all false
set_option maxRecDepth 100000
set_option autoImplicit false
namespace PL
open PySem PySem.Spec L2
open PyProof.Rows hiding St
end PL
set_option Elab.async false
set_option linter.all false
set_option maxRecDepth 100000
set_option autoImplicit false
namespace PL
open PySem PySem.Spec L2
open PyProof.Rows hiding St
def leastI : List Int → Int
  | [] => 0
  | [n] => n
  | n :: m :: ns => min n (leastI (m :: ns))
theorem leastI_mem : ∀ {ns : List Int}, ns ≠ [] → leastI ns ∈ ns
  | [], h => absurd rfl h
  | [n], _ => List.mem_cons_self
  | n :: m :: ns, _ => by
    have ih := leastI_mem (ns := m :: ns) (fun z => nomatch z)
    show min n (leastI (m :: ns)) ∈ _
    rcases Int.le_total n (leastI (m :: ns)) with h | h
    · rw [Int.min_eq_left h]; exact List.mem_cons_self
    · rw [Int.min_eq_right h]; exact List.mem_cons_of_mem _ ih
theorem leastI_le : ∀ {ns : List Int}, ∀ y ∈ ns, leastI ns ≤ y
  | [], _, h => nomatch h
  | [n], y, h => by rw [List.mem_singleton.mp h]; exact Int.le_refl _
  | n :: m :: ns, y, h => by
    show min n (leastI (m :: ns)) ≤ y
    rcases List.mem_cons.mp h with rfl | h
    · exact Int.min_le_left ..
    · exact Int.le_trans (Int.min_le_right ..) (leastI_le y h)
def sMut0 (i : Nat) (g : List PV → R (List PV)) : Rho → Out := fun ρ => match ρ[i]? with
  | some (.own ps) => (match g ps with
    | .ok qs => .next (ρ.set i (.own qs))
    | _ => .stuck)
  | _ => .stuck
def clearP : List PV → R (List PV) := fun _ => .ok []
def getN (ps : List PV) : PV → Option PV
  | .int k => if 0 ≤ k ∧ k < 1000000 then ps[k.toNat]? else none
  | _ => none
def augN (ps : List PV) : PV → PV → PV → R (List PV)
  | .int k, .int a, .int b => match ixN ps.length k with
    | some j => .ok (ps.set j (.int (a + b)))
    | none => .stuck
  | _, _, _ => .stuck
def sAugI (i : Nat) (fi f : Rho → R PV) : Rho → Out := fun ρ => match ρ[i]? with
  | some (.own ps) => sE fi (fun q ρ => match getN ps q with
    | some x => sE f (fun y ρ => match augN ps q x y with
      | .ok qs => .next (ρ.set i (.own qs))
      | _ => .stuck) ρ
    | none => .stuck) ρ
  | _ => .stuck
end PL
set_option Elab.async false
set_option linter.all false
set_option maxRecDepth 100000
set_option autoImplicit false
namespace PL
open PySem PySem.Spec L2
open PyProof.Rows hiding St
def isBP : PV → PV → R PV
  | .bl a, .bl b => .ok (.bl (decide (a = b)))
  | _, _ => .stuck
def notBP : PV → PV → R PV
  | .bl a, .bl b => .ok (.bl (!decide (a = b)))
  | _, _ => .stuck
theorem isBP_exc (p q : PV) (c : Str) : isBP p q ≠ .exc c := by unfold isBP; split <;> exact fun z => nomatch z
theorem rt_blz {K : PySem.W.Frag} {H H2 : Hp} {O0 : Addr → Prop} {σ : St} {ρ : Rho} {x : V} {b : Bool} (r : RepM K O0 σ ρ .t H H2 x (.bl b)) : x = .bl b := by
  rcases r with r | ⟨a, vs, ps, _, e, _⟩
  · cases r; rfl
  · cases e
theorem s_isB (K : PySem.W.Frag) : OpS K (fun x y H Q => ∃ a b, x = .bl a ∧ y = .bl b ∧ Q (.bl (decide (a = b))) H) .t .t .s isBP := by
  intro H0 O0 σ ρ H H2 x y p q Q S s rx ry G
  unfold isBP at G
  split at G
  · rw [rt_blz rx, rt_blz ry]; exact ⟨_, _, rfl, rfl, G _ _ (Same.refl _) (.bl _)⟩
  · exact G.elim
section
variable {X : Cx} {W : WX} {a b : Expr} {pos : Pos} {f g : Rho → R PV}
theorem t_isB (ha : EJ X W .t a f) (hb : EJ X W .t b g) : TJ X W (.Compare a [.Is] [b] pos) (tB1 (e2 isBP f g)) := t_cmp op_is_bl isBP_exc (s_isB _) ha hb (nomark _)
end
@[simp] theorem isBP_bb (a b : Bool) : isBP (.bl a) (.bl b) = .ok (.bl (decide (a = b))) := rfl
@[simp] theorem notBP_bb (a b : Bool) : notBP (.bl a) (.bl b) = .ok (.bl (!decide (a = b))) := rfl
end PL
set_option Elab.async false
set_option linter.all false
set_option maxRecDepth 100000
set_option autoImplicit false
namespace PL
open PySem PySem.Spec L2
open PyProof.Rows hiding St
def kV : V → Nat
  | .int _ => 0 | .bl _ => 1 | .str _ => 2 | .non => 3 | _ => 4
end PL
set_option Elab.async false
set_option linter.all false
set_option maxRecDepth 100000
set_option autoImplicit false
namespace PL
open PySem PySem.Spec L2
open PyProof.Rows hiding St
end PL
set_option Elab.async false
set_option linter.all false
set_option maxRecDepth 100000
set_option autoImplicit false
namespace PL
open PySem PySem.Spec L2
open PyProof.Rows hiding St
open PySem.W (EachIs AllAlike Sortable dataLe dataLt alike)
theorem okd_stuck {P : Program} {w : World} {K : PySem.W.Frag} {mg : Str → Option Value} {base : Heap} {x : Str} {st : Stmt} {ps : List Str} {k n : Nat} {nw : Bool} (T : DefE K mg x st ps) (hn : n = ps.length) : Okd P w K mg base x ps k n nw (fun _ => .stuck) := by
  obtain ⟨f, fd, T⟩ := T
  refine ⟨f, fd, T.g, T.F.kp, T.b, ⟨fun vs H Q E h => ?_, fun A outer s H args us vs Q E _ _ _ _ h => ?_⟩⟩
  · obtain ⟨_, _, _, _, e, _⟩ := h
    exact e.trans hn
  · obtain ⟨_, _, _, _, _, z⟩ := h
    exact z.elim
end PL
set_option Elab.async false
set_option linter.all false
set_option maxRecDepth 100000
set_option autoImplicit false
namespace PL
open PySem PySem.Spec L2
open PyProof.Rows hiding St
end PL
set_option Elab.async false
set_option linter.all false
set_option maxRecDepth 100000
set_option autoImplicit false
namespace PL
open PySem PySem.Spec L2
open PyProof.Rows hiding St
end PL
set_option Elab.async false
set_option linter.all false
set_option maxRecDepth 100000
set_option autoImplicit false
namespace PL
open PySem PySem.Spec L2
open PyProof.Rows hiding St
def KeptB (b : Nat) (σ : St) (H H' : Hp) : Prop := ∀ d o, H d = some o → σ[b]? ≠ some (some (.ref d)) → H' d = some o
theorem KeptB.same {b : Nat} {σ : St} {H H' : Hp} (s : Same H H') : KeptB b σ H H' := fun d o h _ => s d o h
theorem KeptB.trans {b : Nat} {σ : St} {H H1 H2 : Hp} (k : KeptB b σ H H1) (l : KeptB b σ H1 H2) : KeptB b σ H H2 := fun d o h n => l d o (k d o h n) n
theorem set_has {ρ : Rho} {b : Nat} {s t : Slot} (h : ρ[b]? = some s) : (ρ.set b t)[b]? = some t := List.getElem?_set_self (List.getElem?_eq_some_iff.mp h).1
section
variable {K : PySem.W.Frag} {O0 : Addr → Prop} {σ : St} {ρ : Rho} {b : Nat} {c c' : List PV} {H0 H H' : Hp}
theorem oo_box (h : ρ[b]? = some (.own c)) {a : Addr} : OO O0 σ (ρ.set b (.own c')) a ↔ OO O0 σ ρ a := by
  constructor
  · rintro (z | ⟨j, rs, e1, e2⟩)
    · exact .inl z
    · by_cases e : b = j
      · subst e; exact .inr ⟨b, c, h, e2⟩
      · rw [List.getElem?_set_ne e] at e1; exact .inr ⟨j, rs, e1, e2⟩
  · rintro (z | ⟨j, rs, e1, e2⟩)
    · exact .inl z
    · by_cases e : b = j
      · subst e; exact .inr ⟨b, c', set_has h, e2⟩
      · exact .inr ⟨j, rs, by rw [List.getElem?_set_ne e]; exact e1, e2⟩
theorem KeptB.kept (h : ρ[b]? = some (.own c)) (k : KeptB b σ H H') : Kept (OO O0 σ ρ) H (OO O0 σ (ρ.set b (.own c'))) H' := fun a o ha n => ⟨k a o ha fun z => n (.inr ⟨b, c, h, z⟩), fun z => n ((oo_box h).mp z)⟩
end
section
variable {X : Cx} {W : WX} {e a a' : Expr} {pos : Pos} {b : Nat} {f h : Rho → R (PV × List PV)}
def x2 (b : Nat) (g : PV → PV → R PV) (f h : Rho → R (PV × List PV)) : Rho → R (PV × List PV) := fun ρ => (f ρ).bind fun x => (h (ρ.set b (.own x.2))).bind fun y => (g x.1 y.1).bind fun r => .ok (r, y.2)
end
/-- all but the list at a stay -/
def KeptA (a : Addr) (H H' : Hp) : Prop := ∀ d o, H d = some o → d ≠ a → H' d = some o
theorem KeptA.refl (a : Addr) (H : Hp) : KeptA a H H := fun _ _ h _ => h
theorem KeptA.trans {a : Addr} {H H1 H2 : Hp} (k : KeptA a H H1) (l : KeptA a H1 H2) : KeptA a H H2 := fun d o h n => l d o (k d o h n) n
theorem KeptA.same {a : Addr} {H H' : Hp} (s : Same H H') : KeptA a H H' := fun d o h _ => s d o h
theorem KeptB.a {b : Nat} {σ : St} {a : Addr} {H H' : Hp} (h : σ[b]? = some (some (.ref a))) (k : KeptB b σ H H') : KeptA a H H' := fun d o hd n => k d o hd fun z => by rw [h] at z; cases z; exact n rfl
theorem KeptA.b {b : Nat} {σ : St} {a : Addr} {H H' : Hp} (h : σ[b]? = some (some (.ref a))) (k : KeptA a H H') : KeptB b σ H H' := fun d o hd n => k d o hd fun z => n (by rw [z]; exact h)
end PL
set_option Elab.async false
set_option linter.all false
set_option maxRecDepth 100000
set_option autoImplicit false
namespace PL
open PySem PySem.Spec L2
open PyProof.Rows hiding St
end PL
set_option Elab.async false
set_option linter.all false
set_option maxRecDepth 100000
set_option autoImplicit false
namespace PL
open PySem PySem.Spec L2
open PyProof.Rows hiding St
end PL
set_option Elab.async false
set_option linter.all false
set_option maxRecDepth 100000
set_option autoImplicit false
namespace PL
open PySem PySem.Spec L2
open PyProof.Rows hiding St
end PL
set_option Elab.async false
set_option linter.all false
set_option maxRecDepth 100000
set_option autoImplicit false
namespace PL
open PySem PySem.Spec L2
open PyProof.Rows hiding St
end PL
set_option Elab.async false
set_option linter.all false
set_option maxRecDepth 100000
set_option autoImplicit false
namespace PL
open PySem PySem.Spec L2
open PyProof.Rows hiding St
def asStrs : List PV → Option (List Str)
  | [] => some []
  | .str s :: r => (asStrs r).map (s :: ·)
  | _ => none
@[simp] theorem asStrs_map : ∀ ys : List Str, asStrs (ys.map PV.str) = some ys
  | [] => rfl
  | y :: ys => by rw [List.map_cons, asStrs, asStrs_map ys]; rfl
def stwP : PV → PV → R PV
  | .str a, .str b => .ok (.bl (Txt.startswith a b))
  | _, _ => .stuck
def lstrP : PV → PV → R PV
  | .str a, .str b => if a.length ≤ sizeLine then .ok (.str (Txt.lstripChars a b)) else .stuck
  | _, _ => .stuck
def partP : PV → PV → R PV
  | .str a, .str b => if (b.length == 0) = false ∧ a.length ≤ sizeLine then .ok (.tup [.str (Txt.partition a b).1, .str (Txt.partition a b).2.1, .str (Txt.partition a b).2.2]) else .stuck
  | _, _ => .stuck
/-- a method of a text with one argument -/
def eM (g : PV → PV → R PV) (f h : Rho → R PV) : Rho → R PV := fun ρ => (f ρ).bind fun p => match p with
  | .str _ => (h ρ).bind fun q => g p q
  | _ => .stuck
section
variable {X : Cx} {W : WX} {m1 m : Md} {o e : Expr} {apos pos : Pos} {f h : Rho → R PV}
theorem t_m1 {r : V → List V → Hp → VK → Prop} {g : PV → PV → R PV} (hg : ∀ p q c, g p q ≠ .exc c) (ho : OpS X.K (fun x y H Q => r x [y] H Q) .t m1 m g) : ∀ σ H Q, tE X.K X.mg W m (eM g f h) σ H Q → tM1 r (tE X.K X.mg W .t f) (tE X.K X.mg W m1 h) σ H Q := by
  intro σ H Q ⟨H0, O0, ρ, S, G⟩
  refine ⟨H0, O0, ρ, S, ?_⟩
  revert G
  unfold eM
  cases f ρ with
  | stuck => exact False.elim
  | exc c => exact id
  | ok p =>
    rw [R.bind_ok]
    cases p with
    | str z =>
      intro G x H1 s1 r1
      cases rt_str r1
      refine ⟨⟨z, rfl⟩, H0, O0, ρ, S.step s1, ?_⟩
      revert G
      dsimp only
      cases h ρ with
      | stuck => exact False.elim
      | exc c => exact fun G C H' s' => G C H' (s1.trans s')
      | ok q =>
        intro G y H2 s2 r2
        exact ho S (s1.trans s2) (r1.step s2) (r2.back s1) (Got.v (hg _ q) (s1.trans s2) G)
    | _ => exact False.elim
theorem stwP_exc (p q : PV) (c : Str) : stwP p q ≠ .exc c := by unfold stwP; split <;> exact fun z => nomatch z
theorem lstrP_exc (p q : PV) (c : Str) : lstrP p q ≠ .exc c := by unfold lstrP; split <;> (try split) <;> exact fun z => nomatch z
theorem partP_exc (p q : PV) (c : Str) : partP p q ≠ .exc c := by unfold partP; split <;> (try split) <;> exact fun z => nomatch z
theorem e_stw (ho : EJ X W .t o f) (he : EJ X W .t e h) (hs : starEach [e] X.env = [(false, eval e X.env)] := by rfl) (hbase : attributeBase o "startswith" X.env (eval o X.env) = eval o X.env := by rfl) (hline : (apos.endLine == pos.line) = true := by rfl) :
    EJ X W .s (.Call (.Attribute o "startswith" apos) [e] [] pos) (eM stwP f h) := by
  refine pe_imp (pe_m1 F.slot_str_startswith F.type_str_startswith mt_startswith ho he hs hbase hline) (t_m1 stwP_exc ?_)
  intro H0 O0 σ ρ H H2 x y p q Q S s rx ry G
  unfold stwP at G
  split at G
  · rw [rt_str rx, rt_str ry]; exact ⟨_, _, rfl, rfl, G _ _ (Same.refl _) (.bl _)⟩
  · exact G.elim
theorem e_lstr (ho : EJ X W .t o f) (he : EJ X W .t e h) (hs : starEach [e] X.env = [(false, eval e X.env)] := by rfl) (hbase : attributeBase o "lstrip" X.env (eval o X.env) = eval o X.env := by rfl) (hline : (apos.endLine == pos.line) = true := by rfl) :
    EJ X W .s (.Call (.Attribute o "lstrip" apos) [e] [] pos) (eM lstrP f h) := by
  refine pe_imp (pe_m1 F.slot_str_lstrip F.type_str_lstrip mt_lstripChars ho he hs hbase hline) (t_m1 lstrP_exc ?_)
  intro H0 O0 σ ρ H H2 x y p q Q S s rx ry G
  unfold lstrP at G
  split at G
  · split at G
    · rename_i hz
      rw [rt_str rx, rt_str ry]; exact ⟨_, _, rfl, rfl, hz, G _ _ (Same.refl _) (.str _)⟩
    · exact G.elim
  · exact G.elim
theorem e_part (ho : EJ X W .t o f) (he : EJ X W .t e h) (hs : starEach [e] X.env = [(false, eval e X.env)] := by rfl) (hbase : attributeBase o "partition" X.env (eval o X.env) = eval o X.env := by rfl) (hline : (apos.endLine == pos.line) = true := by rfl) :
    EJ X W .s (.Call (.Attribute o "partition" apos) [e] [] pos) (eM partP f h) := by
  refine pe_imp (pe_m1 F.slot_str_partition F.type_str_partition mt_partition ho he hs hbase hline) (t_m1 partP_exc ?_)
  intro H0 O0 σ ρ H H2 x y p q Q S s rx ry G
  unfold partP at G
  split at G
  · split at G
    · rename_i hz
      rw [rt_str rx, rt_str ry]
      exact ⟨_, _, rfl, rfl, hz.1, hz.2, fun l hl => G _ _ (same_new hl) (new_tup (H := H) (S.step s) (Reps.ofStrs [_, _, _]) hl)⟩
    · exact G.elim
  · exact G.elim
def intS : List PV → R PV
  | [.str a] => match PySem.intText? a with
    | some n => if a.length ≤ 640 then .ok (.int n) else .stuck
    | none => .stuck
  | _ => .stuck
theorem intS_exc (ps : List PV) (c : Str) : intS ps ≠ .exc c := by unfold intS; split <;> (try split) <;> (try split) <;> exact fun z => nomatch z
theorem e_intS {p : Pos} {fA : Rho → R (List PV)} (mg : X.mg "int" = none) (hg : Gl X "int") (ha : AJ X W .t [e] fA) (he : starEach [e] X.env = (false, eval e X.env) :: starEach [] X.env := by rfl) : EJ X W .s (.Call (.Name "int" p) [e] [] pos) (eD intS fA) := by
  refine e_callTy call_int_str intS_exc ?_ hg mg (by decide +kernel) ha (he := he)
  intro H0 O0 σ ρ H H2 xs ps Q S s r G
  unfold intS at G
  split at G
  · split at G
    · rename_i n hn
      split at G
      · rename_i hz
        cases r with
        | cons r1 r2 =>
          cases r2
          cases rt_str r1
          exact ⟨_, n, rfl, hn, hz, G _ _ (Same.refl _) (.int _)⟩
      · exact G.elim
    · exact G.elim
  · exact G.elim
def inS : PV → PV → R PV
  | .str x, .str z => match x.cps.toList with
    | [c] => .ok (.bl (decide (c ∈ z.cps.toList)))
    | _ => .stuck
  | _, _ => .stuck
def notInS : PV → PV → R PV
  | .str x, .str z => match x.cps.toList with
    | [c] => .ok (.bl (!decide (c ∈ z.cps.toList)))
    | _ => .stuck
  | _, _ => .stuck
theorem inS_exc (p q : PV) (c : Str) : inS p q ≠ .exc c := by unfold inS; split <;> (try split) <;> exact fun z => nomatch z
theorem notInS_exc (p q : PV) (c : Str) : notInS p q ≠ .exc c := by unfold notInS; split <;> (try split) <;> exact fun z => nomatch z
theorem one_cps {x : Str} {c : Nat} (h : x.cps.toList = [c]) : x = ⟨#[c]⟩ := by
  obtain ⟨a⟩ := x
  exact congrArg Str.mk (Array.toList_inj.mp h)
theorem s_inS (K : PySem.W.Frag) : OpS K (fun x y H Q => ∃ (c : Nat) (z : Str), x = .str ⟨#[c]⟩ ∧ y = .str z ∧ Q (.bl (decide (c ∈ z.cps.toList))) H) .t .t .s inS := by
  intro H0 O0 σ ρ H H2 x y p q Q S s rx ry G
  unfold inS at G
  split at G
  · split at G
    · rename_i c hc
      rw [rt_str rx, rt_str ry]
      exact ⟨c, _, by rw [one_cps hc], rfl, G _ _ (Same.refl _) (.bl _)⟩
    · exact G.elim
  · exact G.elim
theorem s_notInS (K : PySem.W.Frag) : OpS K (fun x y H Q => ∃ (c : Nat) (z : Str), x = .str ⟨#[c]⟩ ∧ y = .str z ∧ Q (.bl (!decide (c ∈ z.cps.toList))) H) .t .t .s notInS := by
  intro H0 O0 σ ρ H H2 x y p q Q S s rx ry G
  unfold notInS at G
  split at G
  · split at G
    · rename_i c hc
      rw [rt_str rx, rt_str ry]
      exact ⟨c, _, by rw [one_cps hc], rfl, G _ _ (Same.refl _) (.bl _)⟩
    · exact G.elim
  · exact G.elim
variable {a b : Expr}
theorem e_inS (ha : EJ X W .t a f) (hb : EJ X W .t b h) (hm : behindInMarks .In b = false := by rfl) : EJ X W .s (.Compare a [.In] [b] pos) (e2 inS f h) := e_cmp op_in_sign inS_exc (s_inS _) ha hb hm
theorem e_notInS (ha : EJ X W .t a f) (hb : EJ X W .t b h) (hm : behindInMarks .NotIn b = false := by rfl) : EJ X W .s (.Compare a [.NotIn] [b] pos) (e2 notInS f h) := e_cmp op_notIn_sign notInS_exc (s_notInS _) ha hb hm
theorem t_notInS (ha : EJ X W .t a f) (hb : EJ X W .t b h) (hm : behindInMarks .NotIn b = false := by rfl) : TJ X W (.Compare a [.NotIn] [b] pos) (tB1 (e2 notInS f h)) := t_cmp op_notIn_sign notInS_exc (s_notInS _) ha hb hm
def signsP (x : Str) : List PV := x.cps.toList.map fun c => PV.str ⟨#[c]⟩
def iStrP (f : Rho → R PV) : Rho → R (List PV) := fun ρ => (f ρ).bind fun p => match p with
  | .str x => .ok (signsP x)
  | _ => .stuck
theorem str_it {K : PySem.W.Frag} {x : Str} {O1 : Addr → Prop} {H1 : Hp} : ItOk K (Its x) (signsP x) O1 H1 := by
  have hl : (signsP x).length = x.cps.size := by unfold signsP; rw [List.length_map, Array.length_toList]
  refine ⟨fun i H O k hi => by rw [hl] at hi; exact hi, fun i H O k hi => by rw [hl] at hi; exact hi, fun i H O v H' p k al hp hy => ?_⟩
  obtain ⟨rfl, c, hc, rfl⟩ := hy
  unfold signsP at hp
  rw [List.getElem?_map, Array.getElem?_toList, hc] at hp
  cases hp
  exact ⟨Same.refl _, .str _⟩
theorem i_strP {tg : Expr} (he : EJ X W .t e f) : IJ X W tg e (iStrP f) := by
  refine pi_imp (L2.pi_str he) fun σ H Q ⟨H0, O0, ρ, S, G⟩ => ⟨H0, O0, ρ, S, ?_⟩
  revert G
  unfold iStrP
  cases f ρ with
  | stuck => exact False.elim
  | exc c => exact fun G => G
  | ok p =>
    rw [R.bind_ok]
    cases p with
    | str x =>
      intro G v H1 s1 r1
      cases rt_str r1
      exact ⟨x, rfl, G _ _ s1 str_it⟩
    | _ => exact False.elim
end
end PL
set_option Elab.async false
set_option linter.all false
set_option maxRecDepth 100000
set_option autoImplicit false
namespace PM
open PySem PySem.Spec L2 PL
open PyProof.Rows hiding St
noncomputable def D_is_whole : Rho → Out := (bSeq (sRet (eAn (e1 (isiP "int") (eVo 0)) (e1 notP (e1 (isiP "bool") (eVo 0))))) bNil)
noncomputable def F_is_whole : List PV → R PV := runF 1 D_is_whole
noncomputable def D_divisor : Rho → Out := (bSeq (sSet 0 (eD absP (aCons (eVo 0) aNil))) (bSeq (sSet 1 (eD absP (aCons (eVo 1) aNil))) (bSeq (sWh (tB1 (e2 gtP (eVo 1) (eC (.int 0)))) (bSeq (sPar 0 1 (aCons (eV 1) (aCons (e2 modP (eVo 0) (eVo 1)) aNil))) bNil)) (bSeq (sRet (eV 0)) bNil))))
noncomputable def F_divisor : List PV → R PV := runF 2 D_divisor
noncomputable def D_fraction : Rho → Out := (bSeq (sIf (tOr' (tNt (tB1 (eD F_is_whole (aCons (eV 0) aNil)))) (tOr' (tNt (tB1 (eD F_is_whole (aCons (eV 1) aNil)))) (tB1 (e2 eqP (eVo 1) (eC (.int 0)))))) (bSeq (sRaise "NoFraction") bNil) bNil) (bSeq (sSet 2 (eD F_divisor (aCons (eV 0) (aCons (eV 1) aNil)))) (bSeq (sIf (tB1 (e2 ltP (eVo 1) (eC (.int 0)))) (bSeq (sSet 2 (e1 negP (eVo 2))) bNil) bNil) (bSeq (sRet (eD tupP (aCons (e2 fdivP (eVo 0) (eVo 2)) (aCons (e2 fdivP (eVo 1) (eVo 2)) aNil)))) bNil))))
noncomputable def F_fraction : List PV → R PV := runF 3 D_fraction
noncomputable def D_turned : Rho → Out := (bSeq (sSet 2 (eD tupP (aCons (eV 1) (aCons (eC (.int 0)) aNil)))) (bSeq (sSet 3 (eD tupP (aCons (e2 modP (eVo 0) (eVo 1)) (aCons (eC (.int 1)) aNil)))) (bSeq (sWh (tB1 (e2 gtP (e2 ixP (eVo 3) (eC (.int 0))) (eC (.int 0)))) (bSeq (sSet 4 (e2 fdivP (e2 ixP (eVo 2) (eC (.int 0))) (e2 ixP (eVo 3) (eC (.int 0))))) (bSeq (sPar 2 3 (aCons (eV 3) (aCons (eD tupP (aCons (e2 subP (e2 ixP (eVo 2) (eC (.int 0))) (e2 mulP (eVo 4) (e2 ixP (eVo 3) (eC (.int 0))))) (aCons (e2 subP (e2 ixP (eVo 2) (eC (.int 1))) (e2 mulP (eVo 4) (e2 ixP (eVo 3) (eC (.int 1))))) aNil))) aNil))) bNil))) (bSeq (sRet (e2 modP (e2 ixP (eVo 2) (eC (.int 1))) (eVo 1))) bNil))))
noncomputable def F_turned : List PV → R PV := runF 5 D_turned
end PM
set_option Elab.async false
set_option linter.all false
set_option maxRecDepth 100000
set_option autoImplicit false
namespace PM
open PySem PySem.Spec L2 PL
open PyProof.Rows hiding St
theorem f_is_whole (p : PV) : F_is_whole [p] = .ok (.bl (isW p)) := by
  show (D_is_whole [.val p]).res = _
  simp [D_is_whole, whole_eq]
def primesL : List Int := [2, 3, 5, 7, 11, 13, 17, 19, 23, 29, 31, 37, 41, 43, 47, 53, 59, 61, 67, 71, 73, 79, 83, 89, 97]
def primesN : List Nat := [2, 3, 5, 7, 11, 13, 17, 19, 23, 29, 31, 37, 41, 43, 47, 53, 59, 61, 67, 71, 73, 79, 83, 89, 97]
theorem primesL_le : ∀ n ∈ primesL, 2 ≤ n ∧ n ≤ 97 := by decide
theorem allP_bl (bs : List Bool) : allP [.lst (bs.map PV.bl)] = .ok (.bl (bs.all id)) := by
  unfold allP
  dsimp only
  rw [asBs_of]
end PM
set_option Elab.async false
set_option linter.all false
set_option maxRecDepth 100000
set_option autoImplicit false
namespace PM
open PySem PySem.Spec L2 PL
open PyProof.Rows hiding St
def R.own (r : R (List PV)) (ρ : Rho) (i : Nat) : Out := match r with
  | .ok qs => .next (ρ.set i (.own qs))
  | _ => .stuck
@[simp] theorem own_ok {qs : List PV} {ρ : Rho} {i : Nat} : R.own (.ok qs) ρ i = .next (ρ.set i (.own qs)) := nr rfl
def getOwn (ρ : Rho) (i : Nat) : Option (List PV) := match ρ[i]? with
  | some (.own ps) => some ps
  | _ => none
@[simp] theorem getOwn0 {ps : List PV} {ρ : Rho} : getOwn (.own ps :: ρ) 0 = some ps := nr rfl
@[simp] theorem getOwnS {s : Slot} {ρ : Rho} {i : Nat} : getOwn (s :: ρ) (i + 1) = getOwn ρ i := by simp [getOwn]
def onOwn (o : Option (List PV)) (k : List PV → Out) : Out := match o with
  | some ps => k ps
  | none => .stuck
@[simp] theorem onOwn_some {ps : List PV} {k : List PV → Out} : onOwn (some ps) k = k ps := nr rfl
@[simp] theorem sMut_eq {i : Nat} {g : List PV → PV → R (List PV)} {f : Rho → R PV} {ρ : Rho} : sMut i g f ρ = onOwn (getOwn ρ i) fun ps => (f ρ).st ρ fun p => R.own (g ps p) ρ i := by
  unfold sMut getOwn
  cases ρ[i]? with
  | none => rfl
  | some t => cases t <;> rfl
def asL : PV → R (List PV)
  | .lst l => .ok l
  | _ => .stuck
@[simp] theorem asL_l {l : List PV} : asL (.lst l) = .ok l := nr rfl
@[simp] theorem sSetO_eq {i : Nat} {f : Rho → R PV} {ρ : Rho} : sSetO i f ρ = (f ρ).st ρ fun p => R.own (asL p) ρ i := by
  unfold sSetO sE R.st R.own asL
  cases f ρ with
  | ok p => cases p <;> rfl
  | exc c => rfl
  | stuck => rfl
@[simp] theorem sRetO_eq {i : Nat} {ρ : Rho} : sRetO i ρ = onOwn (getOwn ρ i) fun ps => .ret (.lst ps) := by
  unfold sRetO getOwn
  cases ρ[i]? with
  | none => rfl
  | some t => cases t <;> rfl
def frzR (ρ : Rho) (i : Nat) : Rho := match ρ[i]? with
  | some (.own ps) => ρ.set i (.val (.lst ps))
  | _ => ρ
@[simp] theorem frzR0 {ps : List PV} {ρ : Rho} : frzR (.own ps :: ρ) 0 = .val (.lst ps) :: ρ := nr rfl
@[simp] theorem frzR0v {p : PV} {ρ : Rho} : frzR (.val p :: ρ) 0 = .val p :: ρ := nr rfl
@[simp] theorem frzR0u {ρ : Rho} : frzR (.un :: ρ) 0 = .un :: ρ := nr rfl
@[simp] theorem frzRS {s : Slot} {ρ : Rho} {i : Nat} : frzR (s :: ρ) (i + 1) = s :: frzR ρ i := by
  unfold frzR
  rw [List.getElem?_cons_succ]
  cases ρ[i]? with
  | none => rfl
  | some t => cases t <;> rfl
@[simp] theorem sFrz_eq {i : Nat} {g : Rho → Out} {ρ : Rho} : sFrz i g ρ = g (frzR ρ i) := by
  unfold sFrz frzR
  cases ρ[i]? with
  | none => rfl
  | some t => cases t <;> rfl
theorem appP_ok {l : List PV} {p : PV} (h : l.length < 1000000) : appP l p = .ok (l ++ [p]) := by
  unfold appP
  rw [if_pos (Nat.lt_of_lt_of_le h (size_ok (Nat.le_refl _)))]
@[simp] theorem sSetI_eq {i : Nat} {f fi : Rho → R PV} {ρ : Rho} : sSetI i f fi ρ = onOwn (getOwn ρ i) fun ps => (f ρ).st ρ fun p => (fi ρ).st ρ fun q => R.own (setP ps p q) ρ i := by
  unfold sSetI getOwn
  cases ρ[i]? with
  | none => rfl
  | some t => cases t <;> rfl
def Out.fo (o : Out) (k : Rho → Out) : Out := match o with
  | .next ρ => k ρ
  | .cont ρ => k ρ
  | .brk ρ => .next ρ
  | o => o
@[simp] theorem fo_next {ρ : Rho} {k : Rho → Out} : Out.fo (.next ρ) k = k ρ := nr rfl
@[simp] theorem fo_cont {ρ : Rho} {k : Rho → Out} : Out.fo (.cont ρ) k = k ρ := nr rfl
@[simp] theorem fo_brk {ρ : Rho} {k : Rho → Out} : Out.fo (.brk ρ) k = .next ρ := nr rfl
@[simp] theorem fo_ret {p : PV} {k : Rho → Out} : Out.fo (.ret p) k = .ret p := nr rfl
@[simp] theorem fo_exc {c : Str} {ρ : Rho} {k : Rho → Out} : Out.fo (.exc c ρ) k = .exc c ρ := nr rfl
@[simp] theorem forL_nil {tgt : PV → Rho → Option Rho} {body : Rho → Out} {ρ : Rho} : forL tgt body [] ρ = .next ρ := nr rfl
def onR (o : Option Rho) (k : Rho → Out) : Out := match o with
  | some ρ => k ρ
  | none => .stuck
@[simp] theorem onR_some {ρ : Rho} {k : Rho → Out} : onR (some ρ) k = k ρ := nr rfl
theorem sIx_none (n k : Nat) : HT.sIx n k none = k := rfl
theorem cut_drop {α : Type} (l : List α) (k : Int) (h : 0 ≤ k) : cutG l (some k) none = l.drop k.toNat := by
  unfold cutG
  have e : HT.sIx l.length 0 (some k) = min k.toNat l.length := by
    unfold HT.sIx; dsimp only; rw [if_neg (by omega)]
  rw [e, sIx_none]
  rw [List.take_of_length_le (by rw [List.length_drop]; omega)]
  by_cases h2 : k.toNat ≤ l.length
  · rw [Nat.min_eq_left h2]
  · rw [Nat.min_eq_right (by omega), List.drop_eq_nil_of_le (Nat.le_refl _), List.drop_eq_nil_of_le (by omega)]
theorem cut_take {α : Type} (l : List α) (k : Int) (h : 0 ≤ k) : cutG l none (some k) = l.take k.toNat := by
  unfold cutG
  have e : HT.sIx l.length l.length (some k) = min k.toNat l.length := by
    unfold HT.sIx; dsimp only; rw [if_neg (by omega)]
  rw [e, sIx_none, List.drop_zero, Nat.sub_zero]
  by_cases h2 : k.toNat ≤ l.length
  · rw [Nat.min_eq_left h2]
  · rw [Nat.min_eq_right (by omega), List.take_of_length_le (Nat.le_refl _), List.take_of_length_le (by omega)]
theorem cut_both {α : Type} (l : List α) (j k : Int) (h : 0 ≤ j) (hk : j ≤ k) : cutG l (some j) (some k) = (l.drop j.toNat).take (k.toNat - j.toNat) := by
  unfold cutG
  have e : HT.sIx l.length l.length (some k) = min k.toNat l.length := by
    unfold HT.sIx; dsimp only; rw [if_neg (by omega)]
  have e2 : HT.sIx l.length 0 (some j) = min j.toNat l.length := by
    unfold HT.sIx; dsimp only; rw [if_neg (by omega)]
  rw [e, e2]
  by_cases h2 : j.toNat ≤ l.length
  · rw [Nat.min_eq_left h2]
    by_cases h3 : k.toNat ≤ l.length
    · rw [Nat.min_eq_left h3]
    · rw [Nat.min_eq_right (by omega), List.take_of_length_le (by rw [List.length_drop]; omega), List.take_of_length_le (by rw [List.length_drop]; omega)]
  · rw [Nat.min_eq_right (by omega : l.length ≤ j.toNat), List.drop_eq_nil_of_le (Nat.le_refl _), List.drop_eq_nil_of_le (by omega), List.take_nil, List.take_nil]
@[simp] theorem eSl_eq {g : PV → Option Int → Option Int → R PV} {f : Rho → R PV} {lo hi : Rho → R (Option Int)} {ρ : Rho} : eSl g f lo hi ρ = (f ρ).bind fun p => (lo ρ).bind fun l => (hi ρ).bind fun h => g p l h := nr rfl
@[simp] theorem oNone_eq {ρ : Rho} : oNone ρ = .ok none := nr rfl
@[simp] theorem oSome_eq {f : Rho → R PV} {ρ : Rho} : oSome f ρ = (f ρ).bind fun p => (asI p).bind fun i => .ok (some i) := nr rfl
@[simp] theorem slP_l {l : List PV} {lo hi : Option Int} : slP (.lst l) lo hi = .ok (.lst (cutG l lo hi)) := nr rfl
@[simp] theorem slP_f {l : List PV} {lo hi : Option Int} : slP (.frz l) lo hi = .ok (.lst (cutG l lo hi)) := nr rfl
@[simp] theorem slP_t {l : List PV} {lo hi : Option Int} : slP (.tup l) lo hi = .ok (.tup (cutG l lo hi)) := nr rfl
@[simp] theorem slL_l {l : List PV} {lo hi : Option Int} : slL (.lst l) lo hi = .ok (.lst (cutG l lo hi)) := nr rfl
@[simp] theorem tupleP_l {l : List PV} : tupleP [.lst l] = .ok (.tup l) := nr rfl
@[simp] theorem tupleP_t {l : List PV} : tupleP [.tup l] = .ok (.tup l) := nr rfl
@[simp] theorem tupleP_f {l : List PV} : tupleP [.frz l] = .ok (.tup l) := nr rfl
@[simp] theorem listP_l {l : List PV} : listP [.lst l] = .ok (.lst l) := nr rfl
@[simp] theorem listP_t {l : List PV} : listP [.tup l] = .ok (.lst l) := nr rfl
theorem addP_ok {a b : List PV} (h : a.length + b.length ≤ 1000000) : addP (.lst a) (.lst b) = .ok (.lst (a ++ b)) := by
  unfold addP; dsimp only; rw [if_pos (size_ok h)]
def figOk (p : Int) : PV → Bool
  | .int n => decide (0 ≤ n) && decide (n < p)
  | _ => false
theorem all_map (p : Int) (l : List PV) : (l.map (figOk p)).all id = l.all (figOk p) := by rw [List.all_map]; rfl
/-- the items of a written list or tuple of numbers -/
def SeqI (x : PV) (ds : List Int) : Prop := x = .lst (ds.map PV.int) ∨ x = .tup (ds.map PV.int)
theorem SeqI.len {x : PV} {ds : List Int} (h : SeqI x ds) : lenP [x] = .ok (.int ds.length) := by
  rcases h with rfl | rfl <;> simp
theorem SeqI.tail {x : PV} {ds : List Int} (h : SeqI x ds) (k : Nat) : ((slP x (some k) none).bind fun y => tupleP [y]) = .ok (.tup ((ds.drop k).map PV.int)) := by
  rcases h with rfl | rfl <;> simp [cut_drop]
@[simp] theorem eqP_tt0 : eqP (.tup []) (.tup []) = .ok (.bl true) := by rw [eqP_ok (by simp) (by simp)]; simp
end PM
set_option Elab.async false
set_option linter.all false
set_option maxRecDepth 100000
set_option autoImplicit false
namespace PM
open PySem PySem.Spec L2 PL
open PyProof.Rows hiding St
@[simp] theorem sPar_eq {i j : Nat} {f g : Rho → R PV} {ρ : Rho} : sPar i j (aCons f (aCons g aNil)) ρ = (f ρ).st ρ fun p => (g ρ).st ρ fun q => .next ((ρ.set i (.val p)).set j (.val q)) := by
  unfold sPar aCons R.st
  cases f ρ with
  | exc c => rfl
  | stuck => rfl
  | ok p => cases g ρ <;> rfl
@[simp] theorem absP_i {a : Int} : absP [.int a] = .ok (.int a.natAbs) := by
  have e : absP [.int a] = .ok (.int (if a < 0 then -a else a)) := rfl
  rw [e]
  congr 2
  split <;> omega
/-- Euclid's loop, on whichever test of the other one -/
theorem gcd_run (test : Rho → R Bool) (ht : ∀ x y : Nat, test [.val (.int x), .val (.int y)] = .ok (decide (y ≠ 0))) : ∀ (y x : Nat),
    sWh test (bSeq (sPar 0 1 (aCons (eV 1) (aCons (e2 modP (eVo 0) (eVo 1)) aNil))) bNil) [.val (.int x), .val (.int y)] = .next [.val (.int (Nat.gcd x y)), .val (.int 0)] := by
  intro y
  induction y using Nat.strongRecOn with
  | _ y ih =>
    intro x
    rw [sWh_eq, ht]
    by_cases h : y = 0
    · subst h; simp
    · have hy : (0 : Int) < y := by omega
      have i := ih (x % y) (Nat.mod_lt x (by omega)) y
      have e : ((x : Int) % (y : Int)) = ((x % y : Nat) : Int) := by omega
      have g : Nat.gcd y (x % y) = Nat.gcd x y := by rw [Nat.gcd_comm x y, Nat.gcd_rec y x, Nat.gcd_comm (x % y) y]
      rw [g, ← e] at i
      simp [h, modP_pos hy, i]
theorem f_divisor (a b : Int) : F_divisor [.int a, .int b] = .ok (.int (Int.gcd a b)) := by
  show (D_divisor [.val (.int a), .val (.int b)]).res = _
  have r := gcd_run (tB1 (e2 gtP (eVo 1) (eC (.int 0)))) (fun x y => by
    have q : decide ((0 : Int) < (y : Int)) = decide (y ≠ 0) := by rw [decide_eq_decide]; omega
    simp only [tB1_eq, e2_eq, eVos, eVo0, eC_eq, bind1, gtP_ii, asB_eq, q]) b.natAbs a.natAbs
  simp only [D_divisor, bSeq_eq, sSet_eq, eD_eq, aCons_eq, aNil_eq, eVo0, eVos, bind1, absP_i, st_ok, then_next, List.set_cons_succ, List.set_cons_zero, r, sRet_eq, eV0, then_ret, res_ret]
  rfl
/-- the sign and the share -/
def fs (t b : Int) : Int := if b < 0 then -(Int.gcd t b : Int) else (Int.gcd t b : Int)
def ftop (t b : Int) : Int := t / fs t b
def fbot (t b : Int) : Int := b / fs t b
def fracV (t b : Int) : PV := .tup [.int t, .int b]
theorem gcd_pos {t b : Int} (hb : b ≠ 0) : 0 < Int.gcd t b := Int.gcd_pos_of_ne_zero_right t hb
theorem fs_dvd_t (t b : Int) : fs t b ∣ t := by
  unfold fs
  split
  · exact Int.neg_dvd.mpr (Int.gcd_dvd_left t b)
  · exact Int.gcd_dvd_left t b
theorem fs_dvd_b (t b : Int) : fs t b ∣ b := by
  unfold fs
  split
  · exact Int.neg_dvd.mpr (Int.gcd_dvd_right t b)
  · exact Int.gcd_dvd_right t b
theorem fs_ne {t b : Int} (hb : b ≠ 0) : fs t b ≠ 0 := by
  have := gcd_pos (t := t) hb
  unfold fs
  split <;> omega
theorem ftop_mul (t b : Int) : ftop t b * fs t b = t := Int.ediv_mul_cancel (fs_dvd_t t b)
theorem fbot_mul (t b : Int) : fbot t b * fs t b = b := Int.ediv_mul_cancel (fs_dvd_b t b)
theorem fbot_pos {t b : Int} (hb : b ≠ 0) : 0 < fbot t b := by
  have h := fbot_mul t b
  have hg := gcd_pos (t := t) hb
  rcases Int.lt_trichotomy (fbot t b) 0 with n | z | p
  · exfalso
    unfold fs at h
    split at h
    · have := Int.mul_pos_of_neg_of_neg n (show -(Int.gcd t b : Int) < 0 by omega)
      omega
    · have := Int.mul_neg_of_neg_of_pos n (show (0 : Int) < (Int.gcd t b : Int) by omega)
      omega
  · rw [z, Int.zero_mul] at h; exact absurd h.symm hb
  · exact p
theorem fcross (t b : Int) : ftop t b * b = t * fbot t b := by
  have h1 := ftop_mul t b
  have h2 := fbot_mul t b
  calc ftop t b * b = ftop t b * (fbot t b * fs t b) := by rw [h2]
    _ = (ftop t b * fs t b) * fbot t b := by rw [Int.mul_comm (fbot t b), Int.mul_assoc]
    _ = t * fbot t b := by rw [h1]
theorem flow {t b : Int} (hb : b ≠ 0) : Int.gcd (ftop t b) (fbot t b) = 1 := by
  have h1 := ftop_mul t b
  have h2 := fbot_mul t b
  have hg := gcd_pos (t := t) hb
  have e : Int.gcd (ftop t b * fs t b) (fbot t b * fs t b) = Int.gcd (ftop t b) (fbot t b) * (fs t b).natAbs := Int.gcd_mul_right ..
  rw [h1, h2] at e
  have e2 : (fs t b).natAbs = Int.gcd t b := by unfold fs; split <;> omega
  rw [e2] at e
  have : 1 * Int.gcd t b = Int.gcd (ftop t b) (fbot t b) * Int.gcd t b := by rw [Nat.one_mul]; exact e
  exact (Nat.eq_of_mul_eq_mul_right hg this).symm
theorem f_fraction (t b : Int) (hb : b ≠ 0) (hz : b.natAbs < 2 ^ 8000) : F_fraction [.int t, .int b] = .ok (fracV (ftop t b) (fbot t b)) := by
  refine (runF_eq (n := 3) (u := D_fraction)).trans ?_
  show (D_fraction [.val (.int t), .val (.int b), .un]).res = _
  have hg := gcd_pos (t := t) hb
  have hle : Int.gcd t b ≤ b.natAbs := Nat.le_of_dvd (by omega) (Int.gcd_dvd_natAbs_right t b)
  have hb' : (b == 0) = false := by simpa using hb
  have hzs : (fs t b).natAbs < 2 ^ 9000 := by
    have : (2 : Nat) ^ 8000 ≤ 2 ^ 9000 := Nat.pow_le_pow_right (by omega) (by omega)
    unfold fs; split <;> omega
  have d1 : fdivP (.int t) (.int (fs t b)) = .ok (.int (ftop t b)) := by
    rw [fdivP_ii (fs_ne hb) hzs, Int.fdiv_eq_ediv_of_dvd (fs_dvd_t t b)]; rfl
  have d2 : fdivP (.int b) (.int (fs t b)) = .ok (.int (fbot t b)) := by
    rw [fdivP_ii (fs_ne hb) hzs, Int.fdiv_eq_ediv_of_dvd (fs_dvd_b t b)]; rfl
  by_cases h : b < 0
  · have e : fs t b = -(Int.gcd t b : Int) := by unfold fs; rw [if_pos h]
    rw [e] at d1 d2
    simp [D_fraction, f_is_whole, hb', f_divisor, h, d1, d2, fracV]
  · have e : fs t b = (Int.gcd t b : Int) := by unfold fs; rw [if_neg h]
    rw [e] at d1 d2
    simp [D_fraction, f_is_whole, hb', f_divisor, h, d1, d2, fracV]
theorem sz_le {a : Int} {m k : Nat} (ha : a.natAbs < 2 ^ m) (hk : m ≤ k) : a.natAbs < 2 ^ k := Nat.lt_of_lt_of_le ha (Nat.pow_le_pow_right (by omega) hk)
theorem val_ex (p : Int) (hp : 2 ≤ p) : ∀ (k : Nat) (n : Int), n.natAbs ≤ k → n ≠ 0 → ∃ (m : Int) (v : Nat), n = m * p ^ v ∧ m % p ≠ 0 := by
  intro k
  induction k with
  | zero => intro n h h0; omega
  | succ k ih =>
    intro n h h0
    by_cases hd : n % p = 0
    · have e : n / p * p = n := Int.ediv_mul_cancel (Int.dvd_of_emod_eq_zero hd)
      have hn : n / p ≠ 0 := fun z => by rw [z, Int.zero_mul] at e; exact h0 e.symm
      have hlt : (n / p).natAbs < n.natAbs := by
        have : n.natAbs = (n / p).natAbs * p.natAbs := by rw [← Int.natAbs_mul, e]
        have h1 : 0 < (n / p).natAbs := by omega
        have h2 : 2 ≤ p.natAbs := by omega
        have := Nat.mul_le_mul_left (n / p).natAbs h2
        omega
      obtain ⟨m, v, e2, hm⟩ := ih (n / p) (by omega) hn
      refine ⟨m, v + 1, ?_, hm⟩
      rw [Int.pow_succ, ← Int.mul_assoc, ← e2, e]
    · exact ⟨n, 0, by simp, hd⟩
/-- how often p divides n -/
noncomputable def vp (p n : Int) : Int := if h : 2 ≤ p ∧ n ≠ 0 then ((val_ex p h.1 n.natAbs n (Nat.le_refl _) h.2).choose_spec.choose : Nat) else 0
theorem vp_spec {p n : Int} (hp : 2 ≤ p) (hn : n ≠ 0) : ∃ (m : Int) (v : Nat), n = m * p ^ v ∧ m % p ≠ 0 ∧ vp p n = v := by
  have h : 2 ≤ p ∧ n ≠ 0 := ⟨hp, hn⟩
  have s := (val_ex p h.1 n.natAbs n (Nat.le_refl _) h.2).choose_spec.choose_spec
  exact ⟨_, _, s.1, s.2, by unfold vp; rw [dif_pos h]⟩
theorem vp_uniq {p m n : Int} {u v : Nat} (hp : 2 ≤ p) (e : m * p ^ u = n * p ^ v) (hm : m % p ≠ 0) (hn : n % p ≠ 0) : u = v := by
  have key : ∀ {m n : Int} {u v : Nat}, m * p ^ u = n * p ^ v → m % p ≠ 0 → n % p ≠ 0 → u ≤ v := fun {m n u v} e hm hn => by
    refine Nat.le_of_not_lt fun h => hn ?_
    obtain ⟨k, rfl⟩ : ∃ k, u = v + (k + 1) := ⟨u - v - 1, by omega⟩
    rw [Int.pow_add, Int.mul_comm (p ^ v), ← Int.mul_assoc] at e
    have hpv : p ^ v ≠ 0 := Int.pow_ne_zero (by omega)
    have e2 := Int.eq_of_mul_eq_mul_right hpv e
    rw [← e2, Int.pow_succ, ← Int.mul_assoc]
    exact Int.mul_emod_left _ _
  exact Nat.le_antisymm (key e hm hn) (key e.symm hn hm)
end PM
namespace PM
theorem ftop_le {t b : Int} (hb : b ≠ 0) : (ftop t b).natAbs ≤ t.natAbs := by
  have h := congrArg Int.natAbs (ftop_mul t b)
  rw [Int.natAbs_mul] at h
  have : 1 ≤ (fs t b).natAbs := by have := fs_ne (t := t) hb; omega
  calc (ftop t b).natAbs = (ftop t b).natAbs * 1 := (Nat.mul_one _).symm
    _ ≤ (ftop t b).natAbs * (fs t b).natAbs := Nat.mul_le_mul_left _ this
    _ = t.natAbs := h
theorem fbot_le {t b : Int} (hb : b ≠ 0) : (fbot t b).natAbs ≤ b.natAbs := by
  have h := congrArg Int.natAbs (fbot_mul t b)
  rw [Int.natAbs_mul] at h
  have : 1 ≤ (fs t b).natAbs := by have := fs_ne (t := t) hb; omega
  calc (fbot t b).natAbs = (fbot t b).natAbs * 1 := (Nat.mul_one _).symm
    _ ≤ (fbot t b).natAbs * (fs t b).natAbs := Nat.mul_le_mul_left _ this
    _ = b.natAbs := h
end PM
namespace PM
open PySem PySem.Spec L2 PL
open PyProof.Rows hiding St
theorem stp {i : Nat} {f : Rho → R PV} {k : Rho → Out} {ρ : Rho} (p : PV) {r : R PV} (h : f ρ = .ok p) (g : (k (ρ.set i (.val p))).res = r) : (bSeq (sSet i f) k ρ).res = r := by
  rw [bSeq_eq, sSet_eq, h, st_ok, then_next]; exact g
theorem skp {t : Rho → R Bool} {u k : Rho → Out} {ρ : Rho} {r : R PV} (h : t ρ = .ok false) (g : (k ρ).res = r) : (bSeq (sIf t u bNil) k ρ).res = r := by
  rw [bSeq_eq, sIf_eq, h, stB_ok, if_neg Bool.false_ne_true, bNil_eq, then_next]; exact g
theorem ifT {t : Rho → R Bool} {u v k : Rho → Out} {ρ : Rho} {r : R PV} (h : t ρ = .ok true) (g : (bSeq u k ρ).res = r) : (bSeq (sIf t u v) k ρ).res = r := by
  rw [bSeq_eq, sIf_eq, h, stB_ok, if_pos rfl]; exact g
theorem ifF {t : Rho → R Bool} {u v k : Rho → Out} {ρ : Rho} {r : R PV} (h : t ρ = .ok false) (g : (bSeq v k ρ).res = r) : (bSeq (sIf t u v) k ρ).res = r := by
  rw [bSeq_eq, sIf_eq, h, stB_ok, if_neg Bool.false_ne_true]; exact g
end PM
namespace PM
open PySem PySem.Spec L2 PL
open PyProof.Rows hiding St
theorem sTry_exc {i : Nat} {cs : List Str} {body : Rho → Out} {su : Str → Addr → Rho → Out} {ρ ρ' : Rho} {c : Str} {o : Out} (h : body ρ = .exc c ρ') (hc : c ∈ cs) (h2 : ∀ a, behindX i (su c a (ρ'.set i (.ex a))) = o) : sTry i cs body su ρ = o := by
  unfold sTry
  rw [h]
  dsimp only
  rw [if_pos hc]
  exact tryX_of h2
@[simp] theorem isX0 {a : Addr} {b : Bool} {ρ : Rho} : isX 0 a b (.ex a :: ρ) = .ok (.bl b) := by
  have e : isX 0 a b (.ex a :: ρ) = (if a = a then .ok (.bl b) else .stuck) := rfl
  rw [e, if_pos rfl]
@[simp] theorem isXs {i : Nat} {a : Addr} {b : Bool} {s : Slot} {ρ : Rho} : isX (i + 1) a b (s :: ρ) = isX i a b ρ := by simp [isX]
theorem hotC0 {a : Addr} {F : Addr → R PV} {ρ : Rho} {p : PV} (h : F a = .ok p) : hotC 0 a F (.ex a :: ρ) = .ok p := by
  have e : hotC 0 a F (.ex a :: ρ) = (if a = a then (match F a with | .ok p => .ok p | _ => .stuck) else .stuck) := rfl
  rw [e, if_pos rfl, h]
@[simp] theorem hotCs {i : Nat} {a : Addr} {F : Addr → R PV} {s : Slot} {ρ : Rho} : hotC (i + 1) a F (s :: ρ) = hotC i a F ρ := by simp [hotC]
@[simp] theorem behind_next {i : Nat} {ρ : Rho} : behindX i (.next ρ) = .next (ρ.set i .un) := nr rfl
@[simp] theorem behind_ret {i : Nat} {p : PV} : behindX i (.ret p) = .ret p := nr rfl
theorem anyP_bl (bs : List Bool) : anyP [.lst (bs.map PV.bl)] = .ok (.bl (bs.any id)) := by
  unfold anyP
  dsimp only
  rw [asBs_of]
theorem runX_eq {n : Nat} {g : Rho → Out} {a : Addr} : runX n g a = (g (.ex a :: List.replicate (n - 1) Slot.un)).res := rfl
end PM
set_option Elab.async false
set_option linter.all false
set_option maxRecDepth 100000
set_option autoImplicit false
set_option exponentiation.threshold 20000
namespace PM
open PySem PySem.Spec L2 PL
open PyProof.Rows hiding St
def Dg (p : Int) (ds : List Int) : Prop := ∀ d ∈ ds, 0 ≤ d ∧ d < p
def U (p : Int) : List Int → Int
  | [] => 0
  | d :: r => U p r * p + d
theorem Dg.tail {p d : Int} {r : List Int} (h : Dg p (d :: r)) : Dg p r := fun x hx => h x (List.mem_cons_of_mem _ hx)
/-- a left number in its form -/
structure Lf (p : Int) (ds : List Int) (n : Nat) : Prop where
  pr : p ∈ primesL
  dg : Dg p ds
  hd : ds.head? ≠ some 0
  len : ds.length ≤ n
theorem Lf.b {p : Int} {ds : List Int} {n : Nat} (h : Lf p ds n) : 2 ≤ p ∧ p ≤ 97 := primesL_le p h.pr
end PM
namespace PM
open PL
end PM
namespace PM
open PySem PySem.Spec L2 PL
open PyProof.Rows hiding St
end PM
namespace PM
open PySem PySem.Spec L2 PL
open PyProof.Rows hiding St
end PM
set_option Elab.async false
set_option linter.all false
set_option maxRecDepth 100000
set_option autoImplicit false
set_option exponentiation.threshold 20000
namespace PM
open PySem PySem.Spec L2 PL
open PyProof.Rows hiding St
/-- alike but for multiples -/
def Mo (m x y : Int) : Prop := ∃ z, x = y + m * z
theorem Mo.refl (m x : Int) : Mo m x x := ⟨0, by simp⟩
theorem Mo.of_eq {m x y : Int} (h : x = y) : Mo m x y := h ▸ Mo.refl m x
theorem Mo.symm {m x y : Int} (h : Mo m x y) : Mo m y x := by obtain ⟨z, h⟩ := h; exact ⟨-z, by grind⟩
theorem Mo.trans {m x y w : Int} (h : Mo m x y) (g : Mo m y w) : Mo m x w := by
  obtain ⟨z, h⟩ := h; obtain ⟨u, g⟩ := g; exact ⟨z + u, by grind⟩
theorem Mo.add {m x y u v : Int} (h : Mo m x y) (g : Mo m u v) : Mo m (x + u) (y + v) := by
  obtain ⟨z, h⟩ := h; obtain ⟨w, g⟩ := g; exact ⟨z + w, by grind⟩
theorem Mo.sub {m x y u v : Int} (h : Mo m x y) (g : Mo m u v) : Mo m (x - u) (y - v) := by
  obtain ⟨z, h⟩ := h; obtain ⟨w, g⟩ := g; exact ⟨z - w, by grind⟩
theorem Mo.mul {m x y u v : Int} (h : Mo m x y) (g : Mo m u v) : Mo m (x * u) (y * v) := by
  obtain ⟨z, h⟩ := h; obtain ⟨w, g⟩ := g; exact ⟨y * w + z * v + m * z * w, by subst h g; grind⟩
theorem Mo.dvd {m k x y : Int} (h : Mo (m * k) x y) : Mo m x y := by
  obtain ⟨z, h⟩ := h; exact ⟨k * z, by rw [h, Int.mul_assoc]⟩
theorem Mo.scale {m x y : Int} (k : Int) (h : Mo m x y) : Mo (m * k) (x * k) (y * k) := by
  obtain ⟨z, h⟩ := h; exact ⟨z, by subst h; grind⟩
theorem Mo.eq {m x y : Int} (h : Mo m x y) : x % m = y % m := by
  obtain ⟨z, h⟩ := h; rw [h, Int.add_mul_emod_self_left]
theorem pow_split (p : Int) {a b : Nat} (h : a ≤ b) : p ^ b = p ^ a * p ^ (b - a) := by rw [← Int.pow_add]; congr 1; omega
theorem Mo.low {p x y : Int} {a b : Nat} (h : Mo (p ^ b) x y) (hab : a ≤ b) : Mo (p ^ a) x y := by
  rw [pow_split p hab] at h; exact h.dvd
/-- the figures' sum over a base -/
def V (p b e : Int) (ds : List Int) : Int := U p ds * p ^ (e - b).toNat
theorem V_self (p e : Int) (ds : List Int) : V p e e ds = U p ds := by unfold V; rw [Int.sub_self]; simp
theorem V_shift (p : Int) {b c e : Int} (ds : List Int) (h : b ≤ c) (h2 : c ≤ e) : V p b e ds = V p c e ds * p ^ (c - b).toNat := by
  unfold V; rw [Int.mul_assoc, ← Int.pow_add]; congr 2; omega
/-- one goes on where the other ends -/
structure Ext (p e' : Int) (ds' : List Int) (e : Int) (ds : List Int) : Prop where
  le : e ≤ e'
  en : e + ds.length ≤ e' + ds'.length
  mo : Mo (p ^ ds.length) (V p e e' ds') (U p ds)
theorem Ext.refl (p e : Int) (ds : List Int) : Ext p e ds e ds := ⟨Int.le_refl _, Int.le_refl _, by rw [V_self]; exact Mo.refl _ _⟩
theorem Ext.base {p e' e : Int} {ds' ds : List Int} (h : Ext p e' ds' e ds) {b : Int} (hb : b ≤ e) : Mo (p ^ (e + ds.length - b).toNat) (V p b e' ds') (V p b e ds) := by
  rw [V_shift p ds' hb h.le, V_shift p ds hb (Int.le_refl e), V_self, show (e + ds.length - b).toNat = ds.length + (e - b).toNat by omega, Int.pow_add]
  exact h.mo.scale _
end PM
namespace PM
open PySem PySem.Spec L2 PL
open PyProof.Rows hiding St
theorem prime_mul : ∀ p ∈ primesN, ∀ a : Nat, a < p → ∀ b : Nat, b < p → a ≠ 0 → b ≠ 0 → a * b % p ≠ 0 := by decide +kernel
theorem prime_mulI {p a b : Int} (hp : p ∈ primesL) (ha : a % p ≠ 0) (hb : b % p ≠ 0) : a * b % p ≠ 0 := by
  have hpb := primesL_le p hp
  rw [Int.mul_emod]
  have a1 := Int.emod_nonneg a (show p ≠ 0 by omega)
  have a2 := Int.emod_lt_of_pos a (show 0 < p by omega)
  have b1 := Int.emod_nonneg b (show p ≠ 0 by omega)
  have b2 := Int.emod_lt_of_pos b (show 0 < p by omega)
  have e2 : primesL = primesN.map fun (n : Nat) => (n : Int) := rfl
  rw [e2] at hp
  obtain ⟨n, hn, rfl⟩ := List.mem_map.mp hp
  obtain ⟨x, hx⟩ : ∃ x : Nat, a % (n : Int) = x := ⟨(a % (n : Int)).toNat, by omega⟩
  obtain ⟨y, hy⟩ : ∃ y : Nat, b % (n : Int) = y := ⟨(b % (n : Int)).toNat, by omega⟩
  rw [hx, hy]
  rw [hx] at ha a2
  rw [hy] at hb b2
  have := prime_mul n hn x (by omega) y (by omega) (by omega) (by omega)
  rw [← Int.natCast_mul, ← Int.natCast_emod]
  omega
end PM
namespace PM
open PySem PySem.Spec L2 PL
open PyProof.Rows hiding St
theorem Lf.le {p : Int} {ds : List Int} {n m : Nat} (h : Lf p ds n) (hm : n ≤ m) : Lf p ds m := ⟨h.pr, h.dg, h.hd, Nat.le_trans h.len hm⟩
end PM
set_option Elab.async false
set_option linter.all false
set_option maxRecDepth 100000
set_option autoImplicit false
set_option exponentiation.threshold 20000
namespace PM
open PySem PySem.Spec L2 PL
open PyProof.Rows hiding St
theorem prime_cop : ∀ p ∈ primesN, ∀ a : Nat, a < p → a ≠ 0 → Nat.gcd a p = 1 := by decide +kernel
theorem gcd_mod (a w : Int) : Int.gcd (a % w) w = Int.gcd a w := by
  have e : a = a % w + w * (a / w) := by have := Int.mul_ediv_add_emod a w; omega
  conv => rhs; rw [e]
  rw [Int.gcd_add_mul_left_left]
theorem prime_gcd {p a : Int} (hp : p ∈ primesL) (ha : a % p ≠ 0) (k : Nat) : Int.gcd a (p ^ k) = 1 := by
  have hpb := primesL_le p hp
  have e2 : primesL = primesN.map fun (n : Nat) => (n : Int) := rfl
  rw [e2] at hp
  obtain ⟨n, hn, rfl⟩ := List.mem_map.mp hp
  obtain ⟨x, hx⟩ : ∃ x : Nat, a % (n : Int) = x := ⟨(a % (n : Int)).toNat, by have := Int.emod_nonneg a (show (n : Int) ≠ 0 by omega); omega⟩
  have hlt := Int.emod_lt_of_pos a (show 0 < (n : Int) by omega)
  rw [hx] at ha hlt
  have g := prime_cop n hn x (by omega) (by omega)
  have e : Int.gcd a (n : Int) = 1 := by
    have h1 : Int.gcd (a % (n : Int)) (n : Int) = Int.gcd a (n : Int) := gcd_mod _ _
    rw [← h1, hx]; exact g
  have e3 : Nat.Coprime a.natAbs (n ^ k) := Nat.Coprime.pow_right k e
  show Nat.gcd a.natAbs ((n : Int) ^ k).natAbs = 1
  rw [Int.natAbs_pow]; exact e3
theorem le_of_mul_le {a x w : Int} (hx : 0 < x) (ha : 0 ≤ a) (h : a * x ≤ w) : a ≤ w := by
  have := Int.mul_le_mul_of_nonneg_left (show 1 ≤ x by omega) ha
  omega
end PM
namespace PM
open PySem PySem.Spec L2 PL
open PyProof.Rows hiding St
/-- a slot set again under a condition -/
theorem stpW {i : Nat} {t : Rho → R Bool} {f : Rho → R PV} {k : Rho → Out} {ρ : Rho} {r : R PV} (b : Bool) (v old w : PV) (ht : t ρ = .ok b) (hf : b = true → f ρ = .ok v) (ho : ρ.set i (.val old) = ρ) (hw : w = if b = true then v else old) (g : (k (ρ.set i (.val w))).res = r) : (bSeq (sIf t (bSeq (sSet i f) bNil) bNil) k ρ).res = r := by
  rw [bSeq_eq, sIf_eq, ht, stB_ok]
  cases b with
  | true =>
    rw [if_pos rfl] at hw
    subst hw
    rw [if_pos rfl, bSeq_eq, sSet_eq, hf rfl, st_ok, then_next, bNil_eq, then_next]; exact g
  | false =>
    rw [if_neg Bool.false_ne_true] at hw
    subst hw
    rw [ho] at g
    rw [if_neg Bool.false_ne_true, bNil_eq, then_next]; exact g
end PM
namespace PM
open PySem PySem.Spec L2 PL
open PyProof.Rows hiding St
end PM
set_option Elab.async false
set_option linter.all false
set_option maxRecDepth 100000
set_option autoImplicit false
set_option exponentiation.threshold 20000
namespace PM
open PySem PySem.Spec L2 PL
open PyProof.Rows hiding St
/-- two neighbours of the row of rests -/
structure Nb (W u z r s v w : Int) : Prop where
  cr : Mo W r (u * s)
  cv : Mo W v (u * w)
  sg : (0 < w ∧ s ≤ 0 ∧ r * w - v * s = W) ∨ (w < 0 ∧ 0 ≤ s ∧ r * w - v * s = -W)
  rz : z < r
  v0 : 0 ≤ v
  vr : v < r
  rW : r ≤ W
  sW : -W ≤ s ∧ s ≤ W
theorem Nb.wW {W u z r s v w : Int} (h : Nb W u z r s v w) (hz : 1 ≤ z) : -W ≤ w ∧ w ≤ W := by
  have hr := h.rz
  have v0 := h.v0
  have hW := h.rW
  rcases h.sg with ⟨h1, h2, h3⟩ | ⟨h1, h2, h3⟩
  · have : v * s ≤ 0 := Int.mul_nonpos_of_nonneg_of_nonpos v0 h2
    have := le_of_mul_le (a := w) (x := r) (w := W) (by omega) (by omega) (by rw [Int.mul_comm]; omega)
    omega
  · have e : 0 ≤ v * s := Int.mul_nonneg v0 h2
    have := le_of_mul_le (a := -w) (x := r) (w := W) (by omega) (by omega) (by rw [Int.neg_mul, Int.mul_comm]; omega)
    omega
theorem Nb.step {W u z r s v w : Int} (h : Nb W u z r s v w) (hz : 1 ≤ z) (hv : z < v) : Nb W u z v w (r % v) (s - r / v * w) := by
  have v0 := h.v0
  have vr := h.vr
  have rW := h.rW
  have ww := h.wW hz
  have q1 : 1 ≤ r / v := (Int.le_ediv_iff_mul_le (by omega)).mpr (by omega)
  have er : r / v * v + r % v = r := by have := Int.mul_ediv_add_emod r v; rw [Int.mul_comm] at this; exact this
  have m0 := Int.emod_nonneg r (show v ≠ 0 by omega)
  have m1 := Int.emod_lt_of_pos r (show 0 < v by omega)
  generalize r / v = q at *
  generalize r % v = m at *
  have det : v * (s - q * w) - m * w = -(r * w - v * s) := by rw [← er]; grind
  refine ⟨h.cv, ?_, ?_, hv, m0, m1, by omega, ww⟩
  · have t := h.cr.sub ((Mo.refl W q).mul h.cv)
    have e : r - q * v = m := by omega
    rw [e] at t
    exact t.trans (.of_eq (by grind))
  · rcases h.sg with ⟨h1, h2, h3⟩ | ⟨h1, h2, h3⟩
    · have : 1 * w ≤ q * w := Int.mul_le_mul_of_nonneg_right q1 (by omega)
      exact .inr ⟨by omega, by omega, by rw [det]; omega⟩
    · have : q * w ≤ 1 * w := Int.mul_le_mul_of_nonpos_right q1 (by omega)
      exact .inl ⟨by omega, by omega, by rw [det]; omega⟩
/-- where a fraction is put -/
def plT (p e t : Int) : Int := t * p ^ e.toNat
def plB (p e b : Int) : Int := b * p ^ (-e).toNat
end PM
set_option Elab.async false
set_option linter.all false
set_option maxRecDepth 100000
set_option autoImplicit false
set_option exponentiation.threshold 20000
namespace PM
open PySem PySem.Spec L2 PL
open PyProof.Rows hiding St
theorem dvd_cop {y x b : Int} (h : y ∣ x * b) (g : Int.gcd y x = 1) : y ∣ b := by
  have h1 : y.natAbs ∣ x.natAbs * b.natAbs := by rw [← Int.natAbs_mul]; exact Int.natAbs_dvd_natAbs.mpr h
  exact Int.natAbs_dvd_natAbs.mp (Nat.Coprime.dvd_of_dvd_mul_left (k := y.natAbs) g h1)
/-- lowest terms are only one -/
theorem low_uniq {T B t b : Int} (hB : B ≠ 0) (hb : 0 < b) (hg : Int.gcd t b = 1) (h : T * b = t * B) : ftop T B = t ∧ fbot T B = b := by
  have y0 := fbot_pos (t := T) hB
  have fl := flow (t := T) hB
  have cr := fcross T B
  generalize ftop T B = x at *
  generalize fbot T B = y at *
  have e : x * b = t * y := by
    have : B * (x * b) = B * (t * y) := by
      calc B * (x * b) = x * B * b := by grind
        _ = T * y * b := by rw [cr]
        _ = T * b * y := by grind
        _ = t * B * y := by rw [h]
        _ = B * (t * y) := by grind
    exact Int.eq_of_mul_eq_mul_left hB this
  have d1 : y ∣ b := dvd_cop (show y ∣ x * b from ⟨t, by rw [e, Int.mul_comm]⟩) (by rw [Int.gcd_comm]; exact fl)
  have d2 : b ∣ y := dvd_cop (show b ∣ t * y from ⟨x, by rw [← e, Int.mul_comm]⟩) (by rw [Int.gcd_comm]; exact hg)
  have yb : y = b := Int.le_antisymm (Int.le_of_dvd hb d1) (Int.le_of_dvd y0 d2)
  subst yb
  exact ⟨Int.eq_of_mul_eq_mul_right (by omega) e, rfl⟩
end PM
namespace PM
open PySem PySem.Spec L2 PL
open PyProof.Rows hiding St
/-- a suite under a condition -/
theorem stpC {t : Rho → R Bool} {u k : Rho → Out} {ρ ρ' : Rho} {r : R PV} (b : Bool) (ht : t ρ = .ok b) (hu : b = true → u ρ = .next ρ') (ho : b = false → ρ' = ρ) (g : (k ρ').res = r) : (bSeq (sIf t u bNil) k ρ).res = r := by
  rw [bSeq_eq, sIf_eq, ht, stB_ok]
  cases b with
  | true => rw [if_pos rfl, hu rfl, then_next]; exact g
  | false => rw [ho rfl] at g; rw [if_neg Bool.false_ne_true, bNil_eq, then_next]; exact g
theorem stpFor {it : Rho → R (List PV)} {tgt : PV → Rho → Option Rho} {body k : Rho → Out} {ρ : Rho} {r : R PV} (items : List PV) (ρ' : Rho) (hi : it ρ = .ok items) (hf : forL tgt body items ρ = .next ρ') (g : (k ρ').res = r) : (bSeq (sFor it tgt body) k ρ).res = r := by
  rw [bSeq_eq, sFor_eq, hi, stL_ok, hf, then_next]; exact g
end PM
set_option Elab.async false
set_option linter.all false
set_option maxRecDepth 100000
set_option autoImplicit false
set_option exponentiation.threshold 20000
namespace PM
open PySem PySem.Spec L2 PL
open PyProof.Rows hiding St
end PM
set_option Elab.async false
set_option linter.all false
set_option maxRecDepth 100000
set_option autoImplicit false
set_option exponentiation.threshold 20000
namespace PM
open PySem PySem.Spec L2 PL
open PyProof.Rows hiding St
end PM
set_option Elab.async false
set_option linter.all false
set_option maxRecDepth 100000
set_option autoImplicit false
set_option exponentiation.threshold 20000
namespace PM
/-- the sum in A ^ n - B ^ n = (A - B) .. -/
def Gm (A B : Int) : Nat → Int
  | 0 => 0
  | n + 1 => A ^ n + B * Gm A B n
theorem Gm_eq (A B : Int) : ∀ n : Nat, A ^ n = B ^ n + (A - B) * Gm A B n
  | 0 => by simp [Gm]
  | n + 1 => by
    have ih := Gm_eq A B n
    have e : Gm A B (n + 1) = A ^ n + B * Gm A B n := rfl
    rw [e, Int.pow_succ, Int.pow_succ]
    grind
theorem pow_two_up (B D : Int) : ∀ n : Nat, ∃ w, (B + D) ^ (n + 1) = B ^ (n + 1) + (n + 1) * D * B ^ n + D * D * w
  | 0 => ⟨0, by simp [Int.pow_succ]⟩
  | n + 1 => by
    obtain ⟨w, h⟩ := pow_two_up B D n
    refine ⟨(n + 1) * B ^ n + w * (B + D), ?_⟩
    rw [Int.pow_succ, h, Int.pow_succ B (n + 1), Int.pow_succ B n]
    have e : ((n + 1 : Nat) : Int) = (n : Int) + 1 := by omega
    rw [e]
    grind
/-- modulo its square, twice -/
theorem Gm_mod2 (B D : Int) : ∀ n : Nat, ∃ w, 2 * Gm (B + D) B (n + 2) = 2 * (n + 2) * B ^ (n + 1) + (n + 2) * (n + 1) * D * B ^ n + 2 * (D * D) * w
  | 0 => ⟨0, by simp [Gm]; grind⟩
  | n + 1 => by
    obtain ⟨w, h⟩ := Gm_mod2 B D n
    obtain ⟨v, g⟩ := pow_two_up B D (n + 1)
    refine ⟨v + B * w, ?_⟩
    have e : Gm (B + D) B (n + 1 + 2) = (B + D) ^ (n + 2) + B * Gm (B + D) B (n + 2) := rfl
    have e2 : ((n + 1 : Nat) : Int) = (n : Int) + 1 := by omega
    rw [e, Int.mul_add, g, e2]
    rw [e2] at g
    have h' : 2 * (B * Gm (B + D) B (n + 2)) = B * (2 * (n + 2) * B ^ (n + 1) + (n + 2) * (n + 1) * D * B ^ n + 2 * (D * D) * w) := by rw [← h]; grind
    rw [h', Int.pow_succ B (n + 1), Int.pow_succ B n]
    grind
theorem pow_ne {p B : Int} (hp : p ∈ primesL) (hB : B % p ≠ 0) : ∀ n : Nat, B ^ n % p ≠ 0
  | 0 => by
    have := primesL_le p hp
    rw [Int.pow_zero, Int.emod_eq_of_lt (by omega) (by omega)]; omega
  | n + 1 => by rw [Int.pow_succ]; exact prime_mulI hp (pow_ne hp hB n) hB
theorem ne_add {p a b : Int} (ha : a % p ≠ 0) : (a + p * b) % p ≠ 0 := by rw [Int.add_mul_emod_self_left]; exact ha
theorem step_p {p B z : Int} (hp : p ∈ primesL) (hB : B % p ≠ 0) (j : Nat) (hj : 1 ≤ j) (h2 : p = 2 → 2 ≤ j) : ∃ g, Gm (B + p ^ j * z) B p.toNat = p * g ∧ g % p ≠ 0 := by
  have hpb := primesL_le p hp
  by_cases h : p = 2
  · subst h
    obtain ⟨i, rfl⟩ : ∃ i, j = i + 2 := ⟨j - 2, by have := h2 rfl; omega⟩
    refine ⟨B + 2 * (2 ^ i * z), ?_, ne_add hB⟩
    have e : (2 : Int) ^ (i + 2) = 4 * 2 ^ i := by rw [Int.pow_succ, Int.pow_succ]; grind
    rw [e]
    show (B + 4 * 2 ^ i * z) ^ 1 + B * ((B + 4 * 2 ^ i * z) ^ 0 + B * 0) = _
    rw [Int.pow_zero, Int.pow_succ, Int.pow_zero]
    grind
  · obtain ⟨n, hn⟩ : ∃ n, p.toNat = n + 2 := ⟨p.toNat - 2, by omega⟩
    obtain ⟨i, rfl⟩ : ∃ i, j = i + 1 := ⟨j - 1, by omega⟩
    obtain ⟨d, hd⟩ : ∃ d, d = p ^ i * z := ⟨_, rfl⟩
    have eD : p ^ (i + 1) * z = p * d := by rw [hd, Int.pow_succ]; grind
    obtain ⟨w, hw⟩ := Gm_mod2 B (p * d) n
    have ep : (n : Int) + 2 = p := by omega
    rw [ep] at hw
    have e1 : 2 * Gm (B + p * d) B (n + 2) = p * (2 * B ^ (n + 1) + p * ((n + 1) * d * B ^ n + 2 * d * d * w)) := by rw [hw]; grind
    have c2 : (2 : Int) % p ≠ 0 := by rw [Int.emod_eq_of_lt (by omega) (by omega)]; omega
    have dv : p ∣ Gm (B + p * d) B (n + 2) := dvd_cop (x := 2) ⟨_, e1⟩ (by
      have := prime_gcd hp c2 1
      rw [Int.pow_one, Int.gcd_comm] at this
      exact this)
    obtain ⟨g, hg⟩ := dv
    refine ⟨g, by rw [eD, hn]; exact hg, fun k => ?_⟩
    have e2 : 2 * g = 2 * B ^ (n + 1) + p * ((n + 1) * d * B ^ n + 2 * d * d * w) := by
      have : p * (2 * g) = p * (2 * B ^ (n + 1) + p * ((n + 1) * d * B ^ n + 2 * d * d * w)) := by rw [← e1, hg]; grind
      exact Int.eq_of_mul_eq_mul_left (by omega) this
    have e3 := ne_add (p := p) (b := (n + 1) * d * B ^ n + 2 * d * d * w) (prime_mulI hp c2 (pow_ne hp hB (n + 1)))
    rw [← e2, Int.mul_emod, k, Int.mul_zero, Int.zero_emod] at e3
    exact e3 rfl
theorem lte_t {p B : Int} (hp : p ∈ primesL) (hB : B % p ≠ 0) (j : Nat) (y : Int) (hj : 1 ≤ j) (h2 : p = 2 → 2 ≤ j) : ∀ t : Nat, ∃ y', (B + p ^ j * y) ^ (p.toNat ^ t) = B ^ (p.toNat ^ t) + p ^ (j + t) * y' ∧ (y % p ≠ 0 → y' % p ≠ 0)
  | 0 => ⟨y, by simp [Int.pow_succ], fun h => h⟩
  | t + 1 => by
    obtain ⟨y', e, h⟩ := lte_t hp hB j y hj h2 t
    have hB1 := pow_ne hp hB (p.toNat ^ t)
    obtain ⟨g, g1, g2⟩ := step_p (z := y') hp hB1 (j + t) (by omega) (fun k => by have := h2 k; omega)
    have q := Gm_eq (B ^ (p.toNat ^ t) + p ^ (j + t) * y') (B ^ (p.toNat ^ t)) p.toNat
    refine ⟨y' * g, ?_, fun k => prime_mulI hp (h k) g2⟩
    rw [Nat.pow_succ, Int.pow_mul, Int.pow_mul, e, q, g1, show j + (t + 1) = j + t + 1 by omega, Int.pow_succ]
    grind
end PM
namespace PM
open PySem PySem.Spec L2 PL
open PyProof.Rows hiding St
theorem Mo.pow {m x y : Int} (h : Mo m x y) : ∀ n : Nat, Mo m (x ^ n) (y ^ n)
  | 0 => by rw [Int.pow_zero, Int.pow_zero]; exact Mo.refl _ _
  | n + 1 => by rw [Int.pow_succ, Int.pow_succ]; exact (Mo.pow h n).mul h
end PM
set_option Elab.async false
set_option linter.all false
set_option maxRecDepth 100000
set_option autoImplicit false
set_option exponentiation.threshold 20000
namespace PM
open PySem PySem.Spec L2 PL
open PyProof.Rows hiding St
end PM
set_option Elab.async false
set_option linter.all false
set_option maxRecDepth 100000
set_option autoImplicit false
set_option exponentiation.threshold 20000
namespace PM
open PySem PySem.Spec L2 PL
open PyProof.Rows hiding St
theorem stpN {c k : Rho → Out} {ρ ρ' : Rho} {r : R PV} (h : c ρ = .next ρ') (g : (k ρ').res = r) : (bSeq c k ρ).res = r := by
  rw [bSeq_eq, h, then_next]; exact g
end PM
set_option Elab.async false
set_option linter.all false
set_option maxRecDepth 100000
set_option autoImplicit false
set_option exponentiation.threshold 20000
namespace PM
open PySem PySem.Spec L2 PL
open PyProof.Rows hiding St
end PM
set_option Elab.async false
set_option linter.all false
set_option maxRecDepth 100000
set_option autoImplicit false
set_option exponentiation.threshold 20000
namespace PM
open PySem PySem.Spec L2 PL
open PyProof.Rows hiding St
end PM
set_option Elab.async false
set_option linter.all false
set_option maxRecDepth 100000
set_option autoImplicit false
set_option exponentiation.threshold 20000
namespace PM
open PySem PySem.Spec L2 PL
open PyProof.Rows hiding St
@[simp] theorem sMut0_eq {i : Nat} {g : List PV → R (List PV)} {ρ : Rho} : sMut0 i g ρ = onOwn (getOwn ρ i) fun ps => R.own (g ps) ρ i := by
  unfold sMut0 getOwn
  cases ρ[i]? with
  | none => rfl
  | some t => cases t <;> rfl
@[simp] theorem clearP_eq {ps : List PV} : clearP ps = .ok [] := nr rfl
def onSome {α : Type} (o : Option α) (k : α → Out) : Out := match o with
  | some a => k a
  | none => .stuck
@[simp] theorem onSome_some {α : Type} {a : α} {k : α → Out} : onSome (some a) k = k a := nr rfl
@[simp] theorem sAugI_eq {i : Nat} {fi f : Rho → R PV} {ρ : Rho} : sAugI i fi f ρ = onOwn (getOwn ρ i) fun ps => (fi ρ).st ρ fun q => onSome (getN ps q) fun x => (f ρ).st ρ fun y => R.own (augN ps q x y) ρ i := by
  unfold sAugI getOwn
  cases ρ[i]? with
  | none => rfl
  | some t => cases t with
    | own ps =>
      dsimp only [onOwn, sE]
      cases fi ρ with
      | stuck => rfl
      | exc c => rfl
      | ok q =>
        dsimp only [R.st]
        cases getN ps q with
        | none => rfl
        | some x =>
          dsimp only [onSome, sE]
          cases f ρ <;> rfl
    | _ => rfl
end PM
set_option Elab.async false
set_option linter.all false
set_option maxRecDepth 100000
set_option autoImplicit false
set_option exponentiation.threshold 20000
namespace PM
open PySem PySem.Spec L2 PL
open PyProof.Rows hiding St
theorem ixP_neg {l : List PV} {x : PV} {k : Nat} (hk : 1 ≤ k) (h : k ≤ l.length) (hx : l[l.length - k]? = some x) : ixP (.lst l) (.int (-(k : Int))) = .ok x := by
  have e : atI l (-(k : Int)) = some x := by
    unfold atI ixN
    rw [if_neg (by omega), if_pos (by omega), Option.bind_some, show (-(k : Int) + l.length).toNat = l.length - k by omega, hx]
  unfold ixP
  dsimp only
  rw [e]
theorem ixP_last (l : List PV) (x : PV) : ixP (.lst (l ++ [x])) (.int (-1)) = .ok x := ixP_neg (k := 1) (by omega) (by simp) (by simp)
theorem ixP_last2 (l : List PV) (x y : PV) : ixP (.lst (l ++ [x, y])) (.int (-2)) = .ok x := ixP_neg (k := 2) (by omega) (by simp) (by simp)
def PolyI (as : List Int) : Prop := 2 ≤ as.length ∧ as.length ≤ 9 ∧ as.getLast? ≠ some 0
abbrev Pt := Int × Int
def Abv (q a b : Pt) : Prop := (b.2 - a.2) * (q.1 - a.1) ≤ (q.2 - a.2) * (b.1 - a.1)
def Rises (a b c : Pt) : Prop := (b.2 - a.2) * (c.1 - b.1) < (c.2 - b.2) * (b.1 - a.1)
/-- the stack, its last point first, of a list of points -/
def Cv (S : List Pt) : List Pt → Prop
  | [] => True
  | [a] => a ∈ S
  | b :: a :: r => b ∈ S ∧ a.1 < b.1 ∧ (∀ q ∈ S, a.1 ≤ q.1 → q.1 ≤ b.1 → Abv q a b) ∧ (∀ z, r.head? = some z → Rises z a b) ∧ Cv S (a :: r)
theorem Cv.mem {S : List Pt} : ∀ {s : List Pt}, Cv S s → ∀ q ∈ s, q ∈ S
  | [], _, _, h => nomatch h
  | [a], h, q, hq => by rw [List.mem_singleton.mp hq]; exact h
  | b :: a :: r, h, q, hq => by
    rcases List.mem_cons.mp hq with rfl | hq
    · exact h.1
    · exact Cv.mem h.2.2.2.2 q hq
end PM
set_option Elab.async false
set_option linter.all false
set_option maxRecDepth 100000
set_option autoImplicit false
set_option exponentiation.threshold 20000
namespace PM
open PySem PySem.Spec L2 PL
open PyProof.Rows hiding St
theorem rev_at1 (pre r : List Pt) (a b : Pt) : (pre ++ b :: a :: r).reverse[r.length + 1]? = some b := by
  rw [List.reverse_append, List.reverse_cons, List.reverse_cons, List.append_assoc, List.append_assoc, List.getElem?_append_right (by simp)]
  simp
theorem rev_at0 (pre r : List Pt) (a b : Pt) : (pre ++ b :: a :: r).reverse[r.length]? = some a := by
  rw [List.reverse_append, List.reverse_cons, List.reverse_cons, List.append_assoc, List.append_assoc, List.getElem?_append_right (by simp)]
  simp
theorem Cv.at {S : List Pt} : ∀ {s : List Pt}, Cv S s → ∀ k, k + 1 < s.length → ∃ a c, s.reverse[k]? = some a ∧ s.reverse[k + 1]? = some c ∧ a.1 < c.1 ∧ c ∈ S ∧ a ∈ S ∧ (∀ q ∈ S, a.1 ≤ q.1 → q.1 ≤ c.1 → Abv q a c) ∧ (∀ z, 1 ≤ k → s.reverse[k - 1]? = some z → Rises z a c)
  | [], _, k, hk => by simp at hk
  | [_], _, k, hk => by simp at hk
  | b :: a :: r, h, k, hk => by
    rw [List.length_cons, List.length_cons] at hk
    by_cases e : k + 1 < (a :: r).length
    · obtain ⟨x, y, h1, h2, h3⟩ := Cv.at h.2.2.2.2 k e
      have l : (a :: r).reverse.length = r.length + 1 := by rw [List.length_reverse, List.length_cons]
      rw [List.length_cons] at e
      refine ⟨x, y, by rw [List.reverse_cons, List.getElem?_append_left (by omega)]; exact h1, by rw [List.reverse_cons, List.getElem?_append_left (by omega)]; exact h2, h3.1, h3.2.1, h3.2.2.1, h3.2.2.2.1, fun z k1 hz => h3.2.2.2.2 z k1 ?_⟩
      rw [List.reverse_cons, List.getElem?_append_left (by omega)] at hz
      exact hz
    · rw [List.length_cons] at e
      have e' : k = r.length := by omega
      subst e'
      refine ⟨a, b, rev_at0 [] r a b, rev_at1 [] r a b, h.2.1, h.1, Cv.mem h.2.2.2.2 a List.mem_cons_self, h.2.2.1, fun z k1 hz => h.2.2.2.1 z ?_⟩
      cases r with
      | nil => simp at k1
      | cons w r =>
        have := rev_at0 [b] r w a
        rw [show (b :: a :: w :: r).reverse = ([b] ++ a :: w :: r).reverse from rfl] at hz
        rw [List.length_cons, show r.length + 1 - 1 = r.length by omega, this] at hz
        exact hz
end PM
set_option Elab.async false
set_option linter.all false
set_option maxRecDepth 100000
set_option autoImplicit false
set_option exponentiation.threshold 20000
namespace PM
open PySem PySem.Spec L2 PL
open PyProof.Rows hiding St
noncomputable def vn (p : Int) (n : Nat) : Nat := (vp p n).toNat
theorem vn_spec {p : Int} (hp : 2 ≤ p) {n : Nat} (hn : 1 ≤ n) : ∃ m : Int, (n : Int) = m * p ^ vn p n ∧ m % p ≠ 0 ∧ 1 ≤ m ∧ vp p n = vn p n := by
  obtain ⟨m, v, h1, h2, h3⟩ := vp_spec hp (show (n : Int) ≠ 0 by omega)
  have e : vn p n = v := by unfold vn; rw [h3]; rfl
  have P : 0 < p ^ v := Int.pow_pos (by omega)
  refine ⟨m, by rw [e]; exact h1, h2, ?_, by rw [e]; exact h3⟩
  rcases Int.lt_or_le m 1 with g | g
  · have := Int.mul_le_mul_of_nonneg_right (show m ≤ 0 by omega) (show 0 ≤ p ^ v by omega)
    rw [Int.zero_mul] at this
    omega
  · exact g
theorem vn_uniq {p m : Int} {n v : Nat} (hp : 2 ≤ p) (hn : 1 ≤ n) (h : (n : Int) = m * p ^ v) (hm : m % p ≠ 0) : vn p n = v := by
  obtain ⟨m', h1, h2, _, _⟩ := vn_spec hp hn
  exact (vp_uniq hp (h.symm.trans h1) hm h2).symm
theorem vn_zero {p : Int} {n : Nat} (hp : 2 ≤ p) (hn : 1 ≤ n) (h : (n : Int) % p ≠ 0) : vn p n = 0 := vn_uniq (m := n) hp hn (by simp) h
/-- the figures' sum by a prime: what the factorials lack -/
def dsum (p : Nat) : Nat → Nat → Nat
  | 0, _ => 0
  | f + 1, n => n % p + dsum p f (n / p)
noncomputable def wf (p : Int) : Nat → Nat
  | 0 => 0
  | n + 1 => wf p n + vn p (n + 1)
theorem dsum_0 (p : Nat) : ∀ f : Nat, dsum p f 0 = 0
  | 0 => rfl
  | f + 1 => by rw [dsum, Nat.zero_mod, Nat.zero_div, Nat.zero_add, dsum_0 p f]
theorem dsum_fuel {p : Nat} (hp : 2 ≤ p) : ∀ (f g n : Nat), n ≤ f → n ≤ g → dsum p f n = dsum p g n
  | 0, g, n, h, _ => by
    have e : n = 0 := by omega
    subst e
    rw [dsum_0, dsum_0]
  | f + 1, 0, n, _, h => by
    have e : n = 0 := by omega
    subst e
    rw [dsum_0, dsum_0]
  | f + 1, g + 1, n, h1, h2 => by
    rw [dsum, dsum]
    have : n / p ≤ n / 2 := Nat.div_le_div_left hp (by omega)
    rw [dsum_fuel hp f g (n / p) (by omega) (by omega)]
theorem vn_dsum {p : Nat} (hp : 2 ≤ p) : ∀ (f n : Nat), n + 1 ≤ f → (p - 1) * vn p (n + 1) + dsum p f (n + 1) = 1 + dsum p f n
  | 0, _, h => by omega
  | f + 1, n, h => by
    by_cases c : (n + 1) % p = 0
    · obtain ⟨j, hj⟩ : ∃ j, n + 1 = p * j := ⟨(n + 1) / p, by have := Nat.div_add_mod (n + 1) p; omega⟩
      have j0 : j ≠ 0 := fun z => by rw [z] at hj; omega
      obtain ⟨i, rfl⟩ : ∃ i, j = i + 1 := ⟨j - 1, by omega⟩
      have hn : n = p * i + (p - 1) := by rw [Nat.mul_add] at hj; omega
      have d1 : (n + 1) / p = i + 1 := by rw [hj]; exact Nat.mul_div_cancel_left _ (by omega)
      have d2 : n / p = i := by rw [hn, Nat.mul_add_div (by omega), Nat.div_eq_of_lt (by omega)]; omega
      have m2 : n % p = p - 1 := by rw [hn, Nat.mul_add_mod, Nat.mod_eq_of_lt (by omega)]
      have il : i + 1 ≤ f := by
        have : 2 * (i + 1) ≤ p * (i + 1) := Nat.mul_le_mul_right _ hp
        omega
      have ih := vn_dsum hp f i il
      obtain ⟨m, h1, h2, _, _⟩ := vn_spec (p := (p : Int)) (by omega) (show 1 ≤ i + 1 by omega)
      have e : vn p (n + 1) = vn p (i + 1) + 1 := vn_uniq (m := m) (by omega) (by omega) (by rw [hj, Int.natCast_mul, h1, Int.pow_succ]; grind) h2
      rw [dsum, dsum, c, d1, d2, m2, e, Nat.mul_add]
      omega
    · have hv : vn p (n + 1) = 0 := vn_zero (by omega) (by omega) (by omega)
      have hp0 : 0 < p := by omega
      have dm := Nat.div_add_mod n p
      have lt := Nat.mod_lt n hp0
      have e1 : n % p + 1 < p := by
        rcases Nat.lt_or_ge (n % p + 1) p with g | g
        · exact g
        · exfalso
          have : n + 1 = p * (n / p + 1) := by rw [Nat.mul_add]; omega
          rw [this] at c
          exact c (Nat.mul_mod_right _ _)
      have e2 : n + 1 = p * (n / p) + (n % p + 1) := by omega
      have d1 : (n + 1) / p = n / p := by
        conv => lhs; rw [e2]
        rw [Nat.mul_add_div hp0, Nat.div_eq_of_lt e1]; omega
      have d2 : (n + 1) % p = n % p + 1 := by
        conv => lhs; rw [e2]
        rw [Nat.mul_add_mod, Nat.mod_eq_of_lt e1]
      rw [dsum, dsum, hv, d1, d2]
      omega
theorem wf_dsum {p : Nat} (hp : 2 ≤ p) (f : Nat) : ∀ n : Nat, n ≤ f → (p - 1) * wf p n + dsum p f n = n
  | 0, _ => by
    have := dsum_fuel hp f 0 0 (by omega) (by omega)
    rw [wf, Nat.mul_zero, this]; rfl
  | n + 1, h => by
    have ih := wf_dsum hp f n (by omega)
    have s := vn_dsum hp f n h
    rw [wf, Nat.mul_add]
    omega
theorem dsum_pos {p : Nat} (hp : 2 ≤ p) : ∀ (f n : Nat), n ≤ f → 1 ≤ n → 1 ≤ dsum p f n
  | 0, n, h, h2 => by omega
  | f + 1, n, h, h2 => by
    rw [dsum]
    by_cases c : n % p = 0
    · have : n / p ≤ n / 2 := Nat.div_le_div_left hp (by omega)
      have d := Nat.div_add_mod n p
      have : 1 ≤ n / p := by
        rcases Nat.eq_zero_or_pos (n / p) with g | g
        · rw [g] at d; omega
        · exact g
      have := dsum_pos hp f (n / p) (by omega) this
      omega
    · omega
theorem wf_lt {p : Int} (hp : 2 ≤ p) (n : Nat) (hn : 1 ≤ n) : (p - 1) * (wf p n : Int) ≤ n - 1 := by
  obtain ⟨q, rfl⟩ : ∃ q : Nat, p = q := ⟨p.toNat, by omega⟩
  have h1 := wf_dsum (p := q) (by omega) n n (Nat.le_refl _)
  have h2 := dsum_pos (p := q) (by omega) n n (Nat.le_refl _) hn
  have e : ((q - 1 : Nat) : Int) = (q : Int) - 1 := by omega
  have h3 : ((q - 1 : Nat) : Int) * (wf q n : Int) = (((q - 1) * wf q n : Nat) : Int) := by rw [Int.natCast_mul]
  rw [← e, h3]
  omega
theorem wf_le {p : Int} (hp : 2 ≤ p) (n : Nat) (hn : 1 ≤ n) : wf p n + 1 ≤ n := by
  have h := wf_lt hp n hn
  have : 1 * (wf p n : Int) ≤ (p - 1) * (wf p n : Int) := Int.mul_le_mul_of_nonneg_right (by omega) (by omega)
  omega
end PM
set_option Elab.async false
set_option linter.all false
set_option maxRecDepth 100000
set_option autoImplicit false
set_option exponentiation.threshold 20000
namespace PM
open PySem PySem.Spec L2 PL
open PyProof.Rows hiding St
theorem mo_iff {m x y : Int} : Mo m x y ↔ m ∣ x - y := by
  constructor
  · rintro ⟨z, h⟩; exact ⟨z, by omega⟩
  · rintro ⟨z, h⟩; exact ⟨z, by omega⟩
theorem Mo.canc {p m a b : Int} (hp : p ∈ primesL) (hm : m % p ≠ 0) {E v : Nat} (h : Mo (p ^ (E + v)) (m * p ^ v * a) (m * p ^ v * b)) : Mo (p ^ E) a b := by
  have hpb := primesL_le p hp
  have P : p ^ v ≠ 0 := Int.pow_ne_zero (by omega)
  rw [mo_iff] at h ⊢
  obtain ⟨z, hz⟩ := h
  have e : m * (a - b) = p ^ E * z := by
    rw [Int.pow_add] at hz
    refine Int.eq_of_mul_eq_mul_left P ?_
    grind
  have g : Int.gcd (p ^ E) m = 1 := by rw [Int.gcd_comm]; exact prime_gcd hp hm E
  have d : (p ^ E).natAbs ∣ m.natAbs * (a - b).natAbs := by rw [← Int.natAbs_mul]; exact Int.natAbs_dvd_natAbs.mpr ⟨z, e⟩
  exact Int.natAbs_dvd_natAbs.mp (Nat.Coprime.dvd_of_dvd_mul_left g d)
theorem pow_mo0 {p x : Int} {s : Nat} (h : Mo (p ^ s) x 0) (k : Nat) : Mo (p ^ (s * k)) (x ^ k) 0 := by
  obtain ⟨z, hz⟩ := h
  refine ⟨z ^ k, ?_⟩
  rw [hz, Int.zero_add, Int.mul_pow, Int.pow_mul, Int.zero_add]
def fac : Nat → Int
  | 0 => 1
  | n + 1 => fac n * ((n + 1 : Nat) : Int)
noncomputable def mfc (p : Int) : Nat → Int
  | 0 => 1
  | n + 1 => mfc p n * (((n + 1 : Nat) : Int) / p ^ vn p (n + 1))
theorem vn_div {p : Int} (hp : 2 ≤ p) {n : Nat} (hn : 1 ≤ n) : (n : Int) = (n : Int) / p ^ vn p n * p ^ vn p n ∧ ((n : Int) / p ^ vn p n) % p ≠ 0 ∧ 1 ≤ (n : Int) / p ^ vn p n ∧ (n : Int) / p ^ vn p n ≤ n := by
  obtain ⟨m, h1, h2, h3, _⟩ := vn_spec hp hn
  have P : 0 < p ^ vn p n := Int.pow_pos (by omega)
  have e : (n : Int) / p ^ vn p n = m := by
    conv => lhs; rw [h1]
    exact Int.mul_ediv_cancel _ (by omega)
  rw [e]
  refine ⟨h1, h2, h3, ?_⟩
  have := Int.mul_le_mul_of_nonneg_left (show 1 ≤ p ^ vn p n by omega) (show 0 ≤ m by omega)
  omega
theorem mfc_spec {p : Int} (hp : p ∈ primesL) : ∀ n : Nat, fac n = mfc p n * p ^ wf p n ∧ mfc p n % p ≠ 0
  | 0 => by
    have hpb := primesL_le p hp
    refine ⟨by simp [fac, mfc, wf], ?_⟩
    rw [mfc, Int.emod_eq_of_lt (by omega) (by omega)]; decide
  | n + 1 => by
    have hpb := primesL_le p hp
    obtain ⟨h1, h2⟩ := mfc_spec hp n
    obtain ⟨g1, g2, _⟩ := vn_div hpb.1 (show 1 ≤ n + 1 by omega)
    refine ⟨?_, prime_mulI hp h2 g2⟩
    rw [fac, h1, mfc, wf, Int.pow_add]
    conv => lhs; rw [g1]
    grind
def sms (q : Nat → Int) : Nat → Int
  | 0 => q 0
  | n + 1 => sms q n + q (n + 1)
def LgQ (p : Int) (E : Nat) (x : Int) (q : Nat → Int) (N : Nat) : Prop := ∀ k : Nat, 1 ≤ k → k ≤ N → Mo (p ^ (E + vn p k)) (k * q k) (x ^ k)
def ExQ (p : Int) (E : Nat) (x : Int) (q : Nat → Int) (N : Nat) : Prop := ∀ k : Nat, k ≤ N → Mo (p ^ (E + wf p k)) (fac k * q k) (x ^ k)
noncomputable def trn (a w : Int) : Int := match F_turned [.int a, .int w] with | .ok (.int z) => z | _ => 0
noncomputable def ep (p : Int) (n : Nat) (u : Int) : Nat → Int
  | 0 => 1
  | k + 1 => ep p n u k * u * trn (((k + 1 : Nat) : Int) / p ^ vn p (k + 1)) (p ^ n) % p ^ n
noncomputable def er (p : Int) (s k : Nat) : Nat := k * s - wf p k
end PM
set_option Elab.async false
set_option linter.all false
set_option maxRecDepth 100000
set_option autoImplicit false
set_option exponentiation.threshold 20000
namespace PM
theorem Mo.zero {m x : Int} (z : Int) (h : x = m * z) : Mo m x 0 := ⟨z, by rw [h, Int.zero_add]⟩
theorem Mo.scaleP {p X Y c : Int} {a b : Nat} (h : Mo (p ^ a) X Y) (hc : Mo (p ^ b) c 0) : Mo (p ^ (a + b)) (X * c) (Y * c) := by
  obtain ⟨z, hz⟩ := h
  obtain ⟨w, hw⟩ := hc
  exact ⟨z * w, by rw [hz, hw, Int.pow_add]; grind⟩
theorem Mo.zeroP {p X c : Int} {a b : Nat} (h : Mo (p ^ a) X 0) (hc : Mo (p ^ b) c 0) : Mo (p ^ (a + b)) (X * c) 0 := by
  have := Mo.scaleP h hc
  rwa [Int.zero_mul] at this
theorem Mo.zero_mul {m X : Int} (c : Int) (h : Mo m X 0) : Mo m (X * c) 0 := by
  obtain ⟨z, hz⟩ := h
  exact ⟨z * c, by rw [hz]; grind⟩
theorem sms_tail {W : Int} {q : Nat → Int} {M : Nat} : ∀ N : Nat, M ≤ N → (∀ k, M < k → k ≤ N → Mo W (q k) 0) → Mo W (sms q N) (sms q M)
  | 0, h, _ => by
    have e : M = 0 := by omega
    subst e; exact .refl _ _
  | N + 1, h, t => by
    by_cases e : M = N + 1
    · subst e; exact .refl _ _
    · have ih := sms_tail N (by omega) fun k h1 h2 => t k h1 (by omega)
      rw [sms]
      exact (ih.add (t (N + 1) (by omega) (by omega))).trans (.of_eq (Int.add_zero _))
section
variable {p x : Int} {E : Nat}
theorem ex_tail (hp : p ∈ primesL) {e : Nat → Int} {N s k : Nat} (h : ExQ p E x e N) (hx : Mo (p ^ s) x 0) (hN : k ≤ N) (hs : E + wf p k ≤ s * k) : Mo (p ^ E) (e k) 0 := by
  obtain ⟨f1, f2⟩ := mfc_spec hp k
  have a := (h k hN).trans ((pow_mo0 hx k).low hs)
  refine Mo.canc hp f2 (v := wf p k) ?_
  rw [← f1, Int.mul_zero]; exact a
end
theorem LgQ.low {p x : Int} {E F N : Nat} {q : Nat → Int} (h : LgQ p E x q N) (hF : F ≤ E) : LgQ p F x q N := fun k h1 h2 => (h k h1 h2).low (by omega)
theorem ExQ.low {p x : Int} {E F N : Nat} {q : Nat → Int} (h : ExQ p E x q N) (hF : F ≤ E) : ExQ p F x q N := fun k h2 => (h k h2).low (by omega)
end PM
set_option Elab.async false
set_option linter.all false
set_option maxRecDepth 100000
set_option autoImplicit false
set_option exponentiation.threshold 20000
namespace PM
def cb : Nat → Nat → Int
  | _, 0 => 1
  | 0, _ + 1 => 0
  | n + 1, k + 1 => cb n k + cb n (k + 1)
theorem cb_zero (n : Nat) : cb n 0 = 1 := by cases n <;> rfl
theorem cb_step (n k : Nat) : cb (n + 1) (k + 1) = cb n k + cb n (k + 1) := rfl
theorem cb_abs : ∀ n k : Nat, ((k + 1 : Nat) : Int) * cb (n + 1) (k + 1) = ((n + 1 : Nat) : Int) * cb n k
  | 0, 0 => by rw [cb_step, cb_zero]; rfl
  | 0, k + 1 => by rw [cb_step]; show ((k + 1 + 1 : Nat) : Int) * (0 + 0) = ((0 + 1 : Nat) : Int) * 0; omega
  | n + 1, 0 => by
    have h := cb_abs n 0
    rw [cb_step (n + 1) 0, cb_zero]
    rw [cb_zero] at h
    have e : ((0 + 1 : Nat) : Int) = 1 := rfl
    rw [e] at h ⊢
    have e2 : ((n + 1 + 1 : Nat) : Int) = ((n + 1 : Nat) : Int) + 1 := by omega
    rw [e2]
    grind
  | n + 1, k + 1 => by
    have h1 := cb_abs n (k + 1)
    have h0 := cb_abs n k
    have s := cb_step (n + 1) (k + 1)
    have t := cb_step n k
    have e1 : ((k + 1 + 1 : Nat) : Int) = ((k + 1 : Nat) : Int) + 1 := by omega
    have e2 : ((n + 1 + 1 : Nat) : Int) = ((n + 1 : Nat) : Int) + 1 := by omega
    rw [e1] at h1
    rw [s, e1, e2]
    obtain ⟨a, ha⟩ : ∃ a, a = ((k + 1 : Nat) : Int) := ⟨_, rfl⟩
    obtain ⟨b, hb⟩ : ∃ b, b = ((n + 1 : Nat) : Int) := ⟨_, rfl⟩
    rw [← ha, ← hb] at h1 h0 ⊢
    grind
theorem cb_big : ∀ n k : Nat, n < k → cb n k = 0
  | _, 0, h => by omega
  | 0, k + 1, _ => rfl
  | n + 1, k + 1, h => by rw [cb_step, cb_big n k (by omega), cb_big n (k + 1) (by omega)]; rfl
def sgn (j : Nat) : Int := if j % 2 = 0 then 1 else -1
def Lg (p : Int) (E : Nat) (x T : Int) : Prop := ∃ K0 : Nat, ∀ K : Nat, K0 ≤ K → Mo (p ^ (E + K)) (p ^ K * T) ((1 + x) ^ (p.toNat ^ K) - 1)
theorem Lg.low {p x T : Int} {E F : Nat} (h : Lg p E x T) (hF : F ≤ E) : Lg p F x T := by
  obtain ⟨K0, h⟩ := h
  exact ⟨K0, fun K hK => (h K hK).low (by omega)⟩
theorem Lg.mul {p x y T S : Int} {E : Nat} (h : Lg p E x T) (g : Lg p E y S) : Lg p E (x + y + x * y) (T + S) := by
  obtain ⟨K0, h⟩ := h
  obtain ⟨K1, g⟩ := g
  refine ⟨E + K0 + K1, fun K hK => ?_⟩
  have h := h K (by omega)
  have g := g K (by omega)
  obtain ⟨X, hX⟩ : ∃ X, X = (1 + x) ^ (p.toNat ^ K) - 1 := ⟨_, rfl⟩
  obtain ⟨Y, hY⟩ : ∃ Y, Y = (1 + y) ^ (p.toNat ^ K) - 1 := ⟨_, rfl⟩
  have e : (1 + (x + y + x * y)) ^ (p.toNat ^ K) - 1 = X + Y + X * Y := by
    have e1 : 1 + (x + y + x * y) = (1 + x) * (1 + y) := by grind
    rw [e1, Int.mul_pow, hX, hY]
    grind
  rw [← hX] at h
  rw [← hY] at g
  rw [e]
  have z : Mo (p ^ (E + K)) (X * Y) 0 := by
    have x0 : Mo (p ^ K) X 0 := (h.symm.low (by omega)).trans (Mo.zero T rfl)
    have y0 : Mo (p ^ K) Y 0 := (g.symm.low (by omega)).trans (Mo.zero S rfl)
    exact (Mo.zeroP x0 y0).low (by omega)
  have s := (h.add g).add z.symm
  exact (Mo.of_eq (by grind)).trans s
theorem Lg.pow {p x T : Int} (hp : p ∈ primesL) {E k : Nat} (hk : 1 ≤ k) (h : Lg p E x T) : Lg p (E + vn p k) ((1 + x) ^ k - 1) (k * T) := by
  have hpb := primesL_le p hp
  obtain ⟨K0, h⟩ := h
  refine ⟨E + vn p k + K0, fun K hK => ?_⟩
  have h := h K (by omega)
  obtain ⟨X, hX⟩ : ∃ X, X = (1 + x) ^ (p.toNat ^ K) - 1 := ⟨_, rfl⟩
  rw [← hX] at h
  obtain ⟨n, hn⟩ : ∃ n, k = n + 1 := ⟨k - 1, by omega⟩
  obtain ⟨w, hw⟩ := pow_two_up 1 X n
  have e : (1 + ((1 + x) ^ k - 1)) ^ (p.toNat ^ K) - 1 = k * X + X * X * w := by
    have e1 : 1 + ((1 + x) ^ k - 1) = (1 + x) ^ k := by omega
    have e2 : (1 + x) ^ (p.toNat ^ K) = 1 + X := by omega
    rw [e1, ← Int.pow_mul, Nat.mul_comm, Int.pow_mul, e2, hn, hw, Int.one_pow, Int.one_pow, show ((n + 1 : Nat) : Int) = (n : Int) + 1 by omega]
    grind
  rw [e]
  have x0 : Mo (p ^ K) X 0 := (h.symm.low (by omega)).trans (Mo.zero T rfl)
  have z : Mo (p ^ (E + vn p k + K)) (X * X * w) 0 := Mo.zero_mul w ((Mo.zeroP x0 x0).low (by omega))
  obtain ⟨m, v1, _, _, _⟩ := vn_spec hpb.1 hk
  have a := Mo.scaleP h (Mo.zero (m := p ^ vn p k) m (show (k : Int) = _ by rw [v1, Int.mul_comm]))
  rw [show E + K + vn p k = E + vn p k + K by omega] at a
  have s := a.add z.symm
  exact (Mo.of_eq (by grind)).trans (s.trans (.of_eq (by grind)))
end PM
set_option Elab.async false
set_option linter.all false
set_option maxRecDepth 100000
set_option autoImplicit false
set_option exponentiation.threshold 20000
namespace PM
open PySem PySem.Spec L2 PL
open PyProof.Rows hiding St
theorem sms_front (f : Nat → Int) : ∀ M : Nat, sms f (M + 1) = f 0 + sms (fun i => f (i + 1)) M
  | 0 => rfl
  | M + 1 => by
    have ih := sms_front f M
    rw [show sms f (M + 1 + 1) = sms f (M + 1) + f (M + 1 + 1) from rfl, ih]
    show f 0 + sms (fun i => f (i + 1)) M + f (M + 1 + 1) = f 0 + (sms (fun i => f (i + 1)) M + f (M + 1 + 1))
    omega
theorem sms_add (f g : Nat → Int) : ∀ M : Nat, sms (fun i => f i + g i) M = sms f M + sms g M
  | 0 => rfl
  | M + 1 => by
    have ih := sms_add f g M
    show sms (fun i => f i + g i) M + (f (M + 1) + g (M + 1)) = sms f M + f (M + 1) + (sms g M + g (M + 1))
    omega
theorem sms_mul (c : Int) (f : Nat → Int) : ∀ M : Nat, sms (fun i => c * f i) M = c * sms f M
  | 0 => rfl
  | M + 1 => by
    have ih := sms_mul c f M
    show sms (fun i => c * f i) M + c * f (M + 1) = c * (sms f M + f (M + 1))
    rw [ih]; grind
theorem sms_ext {f g : Nat → Int} : ∀ M : Nat, (∀ i, i ≤ M → f i = g i) → sms f M = sms g M
  | 0, h => h 0 (Nat.le_refl _)
  | M + 1, h => by
    rw [sms, sms, sms_ext M fun i hi => h i (by omega), h (M + 1) (Nat.le_refl _)]
theorem sms_cong {W : Int} {f g : Nat → Int} : ∀ M : Nat, (∀ i, i ≤ M → Mo W (f i) (g i)) → Mo W (sms f M) (sms g M)
  | 0, h => h 0 (Nat.le_refl _)
  | M + 1, h => (sms_cong M fun i hi => h i (by omega)).add (h (M + 1) (Nat.le_refl _))
/-- a triangle of products, by rows and by columns -/
theorem tri (e f : Nat → Int) : ∀ N : Nat, sms (fun n => sms (fun i => e i * f (n - i)) n) N = sms (fun i => e i * sms f (N - i)) N
  | 0 => rfl
  | N + 1 => by
    have ih := tri e f N
    have e1 : sms (fun n => sms (fun i => e i * f (n - i)) n) (N + 1) = sms (fun n => sms (fun i => e i * f (n - i)) n) N + sms (fun i => e i * f (N + 1 - i)) (N + 1) := rfl
    have e2 : sms (fun i => e i * f (N + 1 - i)) (N + 1) = sms (fun i => e i * f (N + 1 - i)) N + e (N + 1) * f (N + 1 - (N + 1)) := rfl
    have e3 : sms (fun i => e i * sms f (N + 1 - i)) (N + 1) = sms (fun i => e i * sms f (N + 1 - i)) N + e (N + 1) * sms f (N + 1 - (N + 1)) := rfl
    have e4 : sms (fun i => e i * sms f (N + 1 - i)) N = sms (fun i => e i * sms f (N - i) + e i * f (N + 1 - i)) N := sms_ext N fun i hi => by
      rw [show N + 1 - i = (N - i) + 1 by omega, sms]; grind
    rw [e1, ih, e2, e3, e4, sms_add, Nat.sub_self]
    show _ = _ + e (N + 1) * f 0
    omega
theorem binom2 (y w : Int) : ∀ n M : Nat, n ≤ M → sms (fun i => cb n i * y ^ i * w ^ (M - i)) M = (y + w) ^ n * w ^ (M - n)
  | 0, M, _ => by
    cases M with
    | zero => show cb 0 0 * y ^ 0 * w ^ (0 - 0) = _; simp [cb_zero]
    | succ M =>
      rw [sms_front]
      have z : sms (fun i => cb 0 (i + 1) * y ^ (i + 1) * w ^ (M + 1 - (i + 1))) M = 0 := by
        have : sms (fun i => cb 0 (i + 1) * y ^ (i + 1) * w ^ (M + 1 - (i + 1))) M = sms (fun i => 0 * (0 : Int)) M := sms_ext M fun i _ => by rw [cb_big 0 (i + 1) (by omega)]; simp
        rw [this, sms_mul, Int.zero_mul]
      rw [z, cb_zero]; simp
  | n + 1, M, h => by
    obtain ⟨m, rfl⟩ : ∃ m, M = m + 1 := ⟨M - 1, by omega⟩
    have i1 := binom2 y w n (m + 1) (by omega)
    have i2 := binom2 y w n m (by omega)
    rw [sms_front] at i1 ⊢
    have e : sms (fun i => cb (n + 1) (i + 1) * y ^ (i + 1) * w ^ (m + 1 - (i + 1))) m = sms (fun i => cb n (i + 1) * y ^ (i + 1) * w ^ (m + 1 - (i + 1)) + y * (cb n i * y ^ i * w ^ (m - i))) m := sms_ext m fun i hi => by
      rw [cb_step, show m + 1 - (i + 1) = m - i by omega, Int.pow_succ]; grind
    rw [e, sms_add, sms_mul, i2]
    rw [cb_zero] at i1 ⊢
    rw [show m + 1 - n = (m - n) + 1 by omega, Int.pow_succ] at i1
    rw [show m + 1 - (n + 1) = m - n by omega, Int.pow_succ (y + w)]
    grind
theorem cb_fac : ∀ n k : Nat, k ≤ n → cb n k * fac k * fac (n - k) = fac n
  | n, 0, _ => by rw [cb_zero, fac, Nat.sub_zero]; omega
  | 0, k + 1, h => by omega
  | n + 1, k + 1, h => by
    have ih := cb_fac n k (by omega)
    have ab := cb_abs n k
    rw [show n + 1 - (k + 1) = n - k by omega, fac, fac, ← ih]
    grind
def Nr (p y : Int) : Prop := Mo (p ^ 1) y 0 ∧ (p = 2 → Mo (p ^ 2) y 0)
theorem Nr.add {p y w : Int} (h : Nr p y) (g : Nr p w) : Nr p (y + w) := by
  refine ⟨by have := h.1.add g.1; rwa [Int.add_zero] at this, fun e => by have := (h.2 e).add (g.2 e); rwa [Int.add_zero] at this⟩
theorem Nr.smul {p y : Int} (c : Int) (h : Nr p y) : Nr p (c * y) := by
  refine ⟨?_, fun e => ?_⟩
  · exact (Mo.of_eq (Int.mul_comm _ _)).trans (h.1.zero_mul c)
  · exact (Mo.of_eq (Int.mul_comm _ _)).trans ((h.2 e).zero_mul c)
theorem half {p y : Int} (hp : p ∈ primesL) (h : Nr p y) {E a i N : Nat} {e : Nat → Int} (he : ExQ p E y e N) (hi : i ≤ N) (ha : a ≤ E) (ha2 : a ≤ (i + 1) / 2) : Mo (p ^ a) (e i) 0 := by
  have hpb := primesL_le p hp
  by_cases i0 : i = 0
  · subst i0
    have : a = 0 := by omega
    subst this
    exact ⟨e 0, by simp⟩
  · have w := wf_le hpb.1 i (by omega)
    by_cases e2 : p = 2
    · exact ex_tail hp (he.low ha) (h.2 e2) hi (by omega)
    · refine ex_tail hp (he.low ha) h.1 hi ?_
      have w2 := wf_lt hpb.1 i (by omega)
      have : 2 * (wf p i : Int) ≤ (p - 1) * (wf p i : Int) := Int.mul_le_mul_of_nonneg_right (by omega) (by omega)
      omega
theorem wf_add {p : Int} (hp : p ∈ primesL) {n i : Nat} (hi : i ≤ n) : wf p i + wf p (n - i) ≤ wf p n := by
  have hpb := primesL_le p hp
  obtain ⟨a1, a2⟩ := mfc_spec hp i
  obtain ⟨b1, b2⟩ := mfc_spec hp (n - i)
  obtain ⟨c1, c2⟩ := mfc_spec hp n
  have cf := cb_fac n i hi
  rcases Nat.lt_or_ge (wf p n) (wf p i + wf p (n - i)) with g | g
  · exfalso
    obtain ⟨d, hd⟩ : ∃ d, wf p i + wf p (n - i) = wf p n + (d + 1) := ⟨wf p i + wf p (n - i) - wf p n - 1, by omega⟩
    have e : mfc p n * p ^ wf p n = cb n i * mfc p i * mfc p (n - i) * p ^ (d + 1) * p ^ wf p n := by
      rw [← c1, ← cf, a1, b1]
      have : p ^ wf p i * p ^ wf p (n - i) = p ^ wf p n * p ^ (d + 1) := by rw [← Int.pow_add, ← Int.pow_add, hd]
      grind
    have e2 := Int.eq_of_mul_eq_mul_right (Int.pow_ne_zero (show p ≠ 0 by omega)) e
    rw [e2, Int.pow_succ, ← Int.mul_assoc, Int.mul_emod_left] at c2
    exact c2 rfl
  · exact g
theorem cb_wf {p : Int} (hp : p ∈ primesL) {n i : Nat} (hi : i ≤ n) : Mo (p ^ (wf p n - (wf p i + wf p (n - i)))) (cb n i) 0 := by
  obtain ⟨a1, a2⟩ := mfc_spec hp i
  obtain ⟨b1, b2⟩ := mfc_spec hp (n - i)
  obtain ⟨c1, c2⟩ := mfc_spec hp n
  have cf := cb_fac n i hi
  have w := wf_add hp hi
  refine Mo.canc hp (prime_mulI hp a2 b2) (v := wf p i + wf p (n - i)) ?_
  rw [show wf p n - (wf p i + wf p (n - i)) + (wf p i + wf p (n - i)) = wf p n by omega, Int.mul_zero]
  refine Mo.zero (mfc p n) ?_
  have e : mfc p i * mfc p (n - i) * p ^ (wf p i + wf p (n - i)) * cb n i = cb n i * fac i * fac (n - i) := by rw [a1, b1, Int.pow_add]; grind
  rw [e, cf, c1, Int.mul_comm]
theorem nr_wf {p y : Int} (hp : p ∈ primesL) (h : Nr p y) (i : Nat) : Mo (p ^ wf p i) (y ^ i) 0 := by
  have hpb := primesL_le p hp
  have z := pow_mo0 h.1 i
  by_cases i0 : i = 0
  · subst i0; exact ⟨y ^ 0, by simp [wf]⟩
  · have w := wf_le hpb.1 i (by omega)
    exact z.low (by omega)
theorem conv {p y w : Int} (hp : p ∈ primesL) (hy : Nr p y) (hw : Nr p w) {E N : Nat} {e f : Nat → Int} (he : ExQ p E y e N) (hf : ExQ p E w f N) : ExQ p E (y + w) (fun n => sms (fun i => e i * f (n - i)) n) N := by
  intro n hn
  have b := binom2 y w n n (Nat.le_refl _)
  rw [Nat.sub_self, Int.pow_zero, Int.mul_one] at b
  rw [← b, ← sms_mul]
  refine sms_cong n fun i hi => ?_
  have cf := cb_fac n i hi
  have wa := wf_add hp hi
  have x1 := he i (by omega)
  have x2 := hf (n - i) (by omega)
  obtain ⟨b1, _⟩ := mfc_spec hp (n - i)
  have s1 := Mo.scaleP x1 (Mo.zero (m := p ^ wf p (n - i)) (mfc p (n - i) * f (n - i)) (show fac (n - i) * f (n - i) = _ by rw [b1]; grind))
  have s2 := Mo.scaleP x2 (nr_wf hp hy i)
  have s3 : Mo (p ^ (E + (wf p i + wf p (n - i)))) (fac i * e i * (fac (n - i) * f (n - i))) (y ^ i * w ^ (n - i)) := by
    rw [show E + wf p i + wf p (n - i) = E + (wf p i + wf p (n - i)) by omega] at s1
    rw [show E + wf p (n - i) + wf p i = E + (wf p i + wf p (n - i)) by omega] at s2
    exact s1.trans ((Mo.of_eq (Int.mul_comm _ _)).trans (s2.trans (.of_eq (Int.mul_comm _ _))))
  have s4 := Mo.scaleP s3 (cb_wf hp hi)
  rw [show E + (wf p i + wf p (n - i)) + (wf p n - (wf p i + wf p (n - i))) = E + wf p n by omega] at s4
  refine (Mo.of_eq ?_).trans (s4.trans (.of_eq (by grind)))
  rw [← cf]
  grind
def Ex (p : Int) (E : Nat) (y W : Int) : Prop := ∃ (e : Nat → Int), ExQ p E y e (2 * E + 1) ∧ Mo (p ^ E) W (sms e (2 * E + 1))
theorem Ex.low {p y W : Int} (hp : p ∈ primesL) (hy : Nr p y) {E F : Nat} (h : Ex p E y W) (hF : F ≤ E) : Ex p F y W := by
  obtain ⟨e, he, hW⟩ := h
  refine ⟨e, fun k hk => (he.low hF) k (by omega), (hW.low hF).trans ?_⟩
  exact sms_tail _ (by omega) fun k k1 k2 => half hp hy he k2 hF (by omega)
theorem Ex.add {p y w W Z : Int} (hp : p ∈ primesL) (hy : Nr p y) (hw : Nr p w) {E : Nat} (h : Ex p E y W) (g : Ex p E w Z) : Ex p E (y + w) (W * Z) := by
  obtain ⟨e, he, hW⟩ := h
  obtain ⟨f, hf, hZ⟩ := g
  obtain ⟨N, hN⟩ : ∃ N, N = 2 * E + 1 := ⟨_, rfl⟩
  rw [← hN] at he hW hf hZ
  refine ⟨_, by rw [← hN]; exact conv hp hy hw he hf, ?_⟩
  rw [← hN, tri]
  have s : Mo (p ^ E) (sms e N * sms f N) (sms (fun i => e i * sms f (N - i)) N) := by
    rw [Int.mul_comm, ← sms_mul]
    refine sms_cong N fun i hi => ?_
    rw [Int.mul_comm]
    obtain ⟨a, ha⟩ : ∃ a, a = min E ((i + 1) / 2) := ⟨_, rfl⟩
    have ea := half hp hy he hi (show a ≤ E by omega) (by omega)
    have ft : Mo (p ^ (E - a)) (sms f N) (sms f (N - i)) := sms_tail N (by omega) fun k k1 k2 => half hp hw hf k2 (by omega) (by omega)
    have t := Mo.scaleP ft ea
    rw [show E - a + a = E by omega] at t
    exact (Mo.of_eq (Int.mul_comm _ _)).trans (t.trans (.of_eq (Int.mul_comm _ _)))
  exact (hW.mul hZ).trans s
theorem ex_zero (p : Int) (E : Nat) : Ex p E 0 1 := by
  refine ⟨fun k => if k = 0 then 1 else 0, fun k hk => ?_, ?_⟩
  · by_cases k0 : k = 0
    · subst k0; exact .of_eq (by simp [fac])
    · refine .of_eq ?_
      show fac k * (if k = 0 then 1 else 0) = 0 ^ k
      rw [if_neg k0, Int.mul_zero, Int.zero_pow (by omega)]
  · have : ∀ M, sms (fun k => if k = 0 then (1 : Int) else 0) M = 1 := fun M => by
      induction M with
      | zero => rfl
      | succ M ih => rw [sms, ih]; simp
    rw [this]; exact .refl _ _
theorem Ex.pow {p y W : Int} (hp : p ∈ primesL) (hy : Nr p y) {E : Nat} (h : Ex p E y W) : ∀ n : Nat, Ex p E (n * y) (W ^ n)
  | 0 => by rw [Int.pow_zero]; simpa using ex_zero p E
  | n + 1 => by
    have ih := (Ex.pow hp hy h n).add hp (hy.smul n) hy h
    rw [Int.pow_succ]
    have e : ((n + 1 : Nat) : Int) * y = (n : Int) * y + y := by rw [show ((n + 1 : Nat) : Int) = (n : Int) + 1 by omega]; grind
    rw [e]
    exact ih
theorem Lg.inj {p x y T : Int} (hp : p ∈ primesL) (hx : Nr p x) (hy : Nr p y) {E : Nat} (h : Lg p E x T) (g : Lg p E y T) : Mo (p ^ E) x y := by
  have hpb := primesL_le p hp
  obtain ⟨K0, h⟩ := h
  obtain ⟨K1, g⟩ := g
  have e := (h (K0 + K1) (by omega)).symm.trans (g (K0 + K1) (by omega))
  obtain ⟨K, hK⟩ : ∃ K, K = K0 + K1 := ⟨_, rfl⟩
  rw [← hK] at e
  by_cases d0 : x - y = 0
  · exact .of_eq (by omega)
  obtain ⟨u, j, e1, e2, _⟩ := vp_spec hpb.1 d0
  rcases Nat.lt_or_ge j E with jE | jE
  · exfalso
    have near : ∀ s : Nat, Mo (p ^ s) (x - y) 0 → s ≤ j := fun s hs => by
      rcases Nat.lt_or_ge j s with g | g
      · exfalso
        obtain ⟨z, hz⟩ := hs
        rw [Int.zero_add, e1] at hz
        obtain ⟨d, hd⟩ : ∃ d, s = j + (d + 1) := ⟨s - j - 1, by omega⟩
        rw [hd, Int.pow_add] at hz
        have pj : p ^ j ≠ 0 := Int.pow_ne_zero (by omega)
        have : u = p ^ (d + 1) * z := Int.eq_of_mul_eq_mul_right pj (by rw [hz]; grind)
        rw [this, Int.pow_succ, Int.mul_assoc, Int.mul_comm p z, ← Int.mul_assoc, Int.mul_emod_left] at e2
        exact e2 rfl
      · exact g
    have j1 := near 1 (by have := hx.1.sub hy.1; rwa [Int.sub_self] at this)
    have j2 : p = 2 → 2 ≤ j := fun q => near 2 (by have := (hx.2 q).sub (hy.2 q); rwa [Int.sub_self] at this)
    have B1 : (1 + y) % p ≠ 0 := by
      obtain ⟨z, hz⟩ := hy.1
      rw [hz, Int.pow_succ, Int.pow_zero, Int.zero_add, Int.one_mul, Int.add_mul_emod_self_left, Int.emod_eq_of_lt (by omega) (by omega)]
      decide
    obtain ⟨y', q1, q2⟩ := lte_t hp B1 j u j1 j2 K
    have xe : 1 + x = 1 + y + p ^ j * u := by rw [Int.mul_comm]; omega
    rw [xe, q1] at e
    obtain ⟨z, hz⟩ := e
    have f : p ^ (j + K) * y' = p ^ (E + K) * z := by omega
    obtain ⟨d, hd⟩ : ∃ d, E + K = (j + K) + (d + 1) := ⟨E - j - 1, by omega⟩
    rw [hd, Int.pow_add p (j + K) (d + 1)] at f
    have pj : p ^ (j + K) ≠ 0 := Int.pow_ne_zero (by omega)
    have : y' = p ^ (d + 1) * z := Int.eq_of_mul_eq_mul_left pj (by rw [f]; grind)
    have q3 := q2 e2
    rw [this, Int.pow_succ, Int.mul_assoc, Int.mul_comm p z, ← Int.mul_assoc, Int.mul_emod_left] at q3
    exact q3 rfl
  · obtain ⟨d, rfl⟩ : ∃ d, j = E + d := ⟨j - E, by omega⟩
    refine ⟨u * p ^ d, ?_⟩
    rw [Int.pow_add] at e1
    have : u * (p ^ E * p ^ d) = p ^ E * (u * p ^ d) := by grind
    omega
end PM
set_option Elab.async false
set_option linter.all false
set_option maxRecDepth 100000
set_option autoImplicit false
set_option exponentiation.threshold 20000
namespace PM
open PySem PySem.Spec L2 PL
open PyProof.Rows hiding St
def slp : Nat → List Int → List Int
  | _, [] => []
  | n, a :: r => (n : Int) * a :: slp (n + 1) r
def at0 (l : List Int) (n : Nat) : Int := l.getD n 0
theorem at0_out {l : List Int} {n : Nat} (h : l.length ≤ n) : at0 l n = 0 := by unfold at0; rw [List.getD_eq_getElem?_getD, List.getElem?_eq_none h]; rfl
def prow (a b : List Int) (n : Nat) : Nat → Int
  | 0 => 0
  | k + 1 => prow a b n k + (if k ≤ n then at0 a k * at0 b (n - k) else 0)
/-- the list while row k is added, up to its m-th number -/
def Part (a b L : List Int) (k m : Nat) : Prop := L.length = a.length + b.length - 1 ∧ ∀ n, n < L.length → at0 L n = prow a b n k + (if k ≤ n ∧ n - k < m then at0 a k * at0 b (n - k) else 0)
theorem Part.next {a b L : List Int} {k m : Nat} (h : Part a b L k m) (hk : k < a.length) (hm : m < b.length) : Part a b (L.set (k + m) (at0 L (k + m) + at0 a k * at0 b m)) k (m + 1) := by
  obtain ⟨h1, h2⟩ := h
  have kl : k + m < L.length := by omega
  refine ⟨by rw [List.length_set, h1], fun n hn => ?_⟩
  rw [List.length_set] at hn
  by_cases e : n = k + m
  · subst e
    have : at0 (L.set (k + m) (at0 L (k + m) + at0 a k * at0 b m)) (k + m) = at0 L (k + m) + at0 a k * at0 b m := by
      unfold at0
      rw [List.getD_eq_getElem?_getD, List.getElem?_set_self kl, Option.getD_some]
    rw [this, h2 _ kl, if_neg (by omega), if_pos (by omega), Int.add_zero, Nat.add_sub_cancel_left]
  · have : at0 (L.set (k + m) (at0 L (k + m) + at0 a k * at0 b m)) n = at0 L n := by
      unfold at0
      rw [List.getD_eq_getElem?_getD, List.getElem?_set_ne (fun z => e z.symm), ← List.getD_eq_getElem?_getD]
    rw [this, h2 n hn]
    congr 1
    by_cases q : k ≤ n ∧ n - k < m
    · rw [if_pos q, if_pos (by omega)]
    · rw [if_neg q, if_neg (by omega)]
theorem Part.row {a b L : List Int} {k : Nat} (h : Part a b L k b.length) : Part a b L (k + 1) 0 := by
  refine ⟨h.1, fun n hn => ?_⟩
  rw [h.2 n hn, prow]
  have z : ¬ (k + 1 ≤ n ∧ n - (k + 1) < 0) := by omega
  rw [if_neg z, Int.add_zero]
  congr 1
  by_cases q : k ≤ n
  · rw [if_pos q]
    by_cases w : n - k < b.length
    · rw [if_pos ⟨q, w⟩]
    · rw [if_neg (fun r => w r.2), at0_out (show b.length ≤ n - k by omega), Int.mul_zero]
  · rw [if_neg q, if_neg (fun r => q r.1)]
end PM
set_option Elab.async false
set_option linter.all false
set_option maxRecDepth 100000
set_option autoImplicit false
set_option exponentiation.threshold 20000
namespace PM
def ev : List Int → Int → Int
  | [], _ => 0
  | c :: r, x => c + x * ev r x
def syn (d : Int) : List Int → List Int
  | [] => []
  | c :: r => (c + d * (syn d r).headD 0) :: syn d r
theorem syn_len (d : Int) : ∀ cs : List Int, (syn d cs).length = cs.length
  | [] => rfl
  | c :: r => by rw [syn, List.length_cons, List.length_cons, syn_len d r]
def shf (d : Int) : Nat → List Int → List Int
  | 0, cs => cs
  | n + 1, cs => match syn d cs with
    | [] => []
    | v :: q => v :: shf d n q
theorem shf_len (d : Int) : ∀ (n : Nat) (cs : List Int), (shf d n cs).length = cs.length
  | 0, _ => rfl
  | n + 1, cs => by
    have l := syn_len d cs
    rw [shf]
    cases h : syn d cs with
    | nil => rw [← l, h]
    | cons v q => rw [← l, h]; simp [shf_len d n q]
/-- each number times a rising power -/
def scl (p : Int) : Int → List Int → List Int
  | _, [] => []
  | b, c :: r => c * b :: scl p (b * p) r
theorem scl_len (p : Int) : ∀ (b : Int) (cs : List Int), (scl p b cs).length = cs.length
  | _, [] => rfl
  | b, c :: r => by rw [scl, List.length_cons, List.length_cons, scl_len]
theorem ev_mul (k z : Int) : ∀ cs : List Int, ev (cs.map fun c => k * c) z = k * ev cs z
  | [] => by simp [ev]
  | c :: r => by rw [List.map_cons, ev, ev, ev_mul k z r]; grind
/-- bounds -/
theorem syn_bd {d : Int} {m : Nat} (hd : d.natAbs < 128 - 1) : ∀ cs : List Int, (∀ c ∈ cs, c.natAbs < 2 ^ m) → ∀ c ∈ syn d cs, c.natAbs < 2 ^ (m + 7 * cs.length)
  | [], _ => by simp [syn]
  | c :: r, h => by
    have ih := syn_bd hd r fun x hx => h x (List.mem_cons_of_mem _ hx)
    intro x hx
    rw [syn] at hx
    rw [List.length_cons]
    have up : (2 : Nat) ^ (m + 7 * (r.length + 1)) = 2 ^ (m + 7 * r.length) * 128 := by rw [show m + 7 * (r.length + 1) = m + 7 * r.length + 7 by omega, Nat.pow_add]
    have lo : (2 : Nat) ^ m ≤ 2 ^ (m + 7 * r.length) := Nat.pow_le_pow_right (by omega) (by omega)
    rw [up]
    rcases List.mem_cons.mp hx with hx | hx
    · subst hx
      have hc := h c List.mem_cons_self
      have hh : ((syn d r).headD 0).natAbs < 2 ^ (m + 7 * r.length) := by
        cases hs : syn d r with
        | nil => simpa using Nat.pow_pos (by omega : 0 < 2)
        | cons a l => exact ih a (by rw [hs]; exact List.mem_cons_self)
      have t := Int.natAbs_add_le c (d * (syn d r).headD 0)
      rw [Int.natAbs_mul] at t
      have m1 : d.natAbs * ((syn d r).headD 0).natAbs ≤ 126 * 2 ^ (m + 7 * r.length) := Nat.mul_le_mul (by omega) (by omega)
      omega
    · exact Nat.lt_of_lt_of_le (ih x hx) (by omega)
theorem shf_bd {d : Int} (hd : d.natAbs < 128 - 1) : ∀ (n : Nat) (m : Nat) (cs : List Int) (L : Nat), cs.length ≤ L → (∀ c ∈ cs, c.natAbs < 2 ^ m) → ∀ c ∈ shf d n cs, c.natAbs < 2 ^ (m + 7 * L * n)
  | 0, m, cs, L, _, h => by simpa [shf] using h
  | n + 1, m, cs, L, hl, h => by
    have b := syn_bd hd cs h
    have l := syn_len d cs
    intro x hx
    rw [shf] at hx
    have up : ∀ k : Nat, k ≤ m + 7 * L * (n + 1) → (2 : Nat) ^ k ≤ 2 ^ (m + 7 * L * (n + 1)) := fun k hk => Nat.pow_le_pow_right (by omega) hk
    have mm : 7 * L * (n + 1) = 7 * L * n + 7 * L := by rw [Nat.mul_succ]
    have pos : 0 ≤ 7 * L * n := Nat.zero_le _
    cases hs : syn d cs with
    | nil => rw [hs] at hx; cases hx
    | cons v q =>
      rw [hs] at hx b l
      have b' : ∀ c ∈ v :: q, c.natAbs < 2 ^ (m + 7 * L) := fun c hc => Nat.lt_of_lt_of_le (b c hc) (Nat.pow_le_pow_right (by omega) (by omega))
      rcases List.mem_cons.mp hx with hx | hx
      · subst hx
        exact Nat.lt_of_lt_of_le (b' x List.mem_cons_self) (up _ (by omega))
      · have ih := shf_bd hd n (m + 7 * L) q L (by rw [List.length_cons] at l; omega) (fun c hc => b' c (List.mem_cons_of_mem _ hc)) x hx
        exact Nat.lt_of_lt_of_le ih (up _ (by omega))
theorem scl_bd {p : Int} (hp : p.natAbs < 128) : ∀ (cs : List Int) (b : Int) (m k : Nat), b.natAbs < 2 ^ k → (∀ c ∈ cs, c.natAbs < 2 ^ m) → ∀ c ∈ scl p b cs, c.natAbs < 2 ^ (m + k + 7 * cs.length)
  | [], b, m, k, _, _ => by simp [scl]
  | c :: r, b, m, k, hb, h => by
    intro x hx
    rw [scl] at hx
    rcases List.mem_cons.mp hx with hx | hx
    · subst hx
      rw [Int.natAbs_mul]
      have : c.natAbs * b.natAbs < 2 ^ m * 2 ^ k := Nat.mul_lt_mul'' (h c List.mem_cons_self) hb
      rw [← Nat.pow_add] at this
      exact Nat.lt_of_lt_of_le this (Nat.pow_le_pow_right (by omega) (by omega))
    · have hb' : (b * p).natAbs < 2 ^ (k + 7) := by
        rw [Int.natAbs_mul, Nat.pow_add]
        exact Nat.mul_lt_mul'' hb (by omega)
      have ih := scl_bd hp r (b * p) m (k + 7) hb' (fun c hc => h c (List.mem_cons_of_mem _ hc)) x hx
      rw [List.length_cons]
      exact Nat.lt_of_lt_of_le ih (Nat.pow_le_pow_right (by omega) (by omega))
end PM
namespace PM
open PL (leastI leastI_mem leastI_le)
/-- the last number is not 0 -/
def NzL (cs : List Int) : Prop := ∃ x, cs.getLast? = some x ∧ x ≠ 0
theorem NzL.ne {cs : List Int} (h : NzL cs) : cs ≠ [] := fun z => by obtain ⟨x, e, _⟩ := h; rw [z] at e; cases e
theorem NzL.tail {c d : Int} {r : List Int} (h : NzL (c :: d :: r)) : NzL (d :: r) := by
  obtain ⟨x, e, n⟩ := h; exact ⟨x, by rw [List.getLast?_cons_cons] at e; exact e, n⟩
theorem NzL.cons {c : Int} {r : List Int} (h : NzL r) : NzL (c :: r) := by
  cases r with
  | nil => exact absurd rfl h.ne
  | cons d r => obtain ⟨x, e, n⟩ := h; exact ⟨x, by rw [List.getLast?_cons_cons]; exact e, n⟩
theorem NzL.mem {cs : List Int} (h : NzL cs) : ∃ c ∈ cs, c ≠ 0 := by
  obtain ⟨x, e, n⟩ := h; exact ⟨x, List.mem_of_getLast? e, n⟩
theorem syn_nz (d : Int) : ∀ cs : List Int, NzL cs → NzL (syn d cs)
  | [], h => absurd rfl h.ne
  | [c], h => by simpa [syn] using h
  | c :: a :: r, h => by
    have ih := syn_nz d (a :: r) h.tail
    rw [syn]; exact ih.cons
theorem shf_nz (d : Int) : ∀ (n : Nat) (cs : List Int), NzL cs → NzL (shf d n cs)
  | 0, _, h => h
  | n + 1, cs, h => by
    have s := syn_nz d cs h
    rw [shf]
    cases hs : syn d cs with
    | nil => exact absurd hs s.ne
    | cons v q =>
      rw [hs] at s
      cases q with
      | nil =>
        dsimp only
        have : shf d n [] = [] := List.length_eq_zero_iff.mp (by rw [shf_len]; rfl)
        rw [this]; exact s
      | cons a r => exact (shf_nz d n (a :: r) s.tail).cons
theorem scl_nz {p : Int} (hp : p ≠ 0) : ∀ (cs : List Int) (b : Int), b ≠ 0 → NzL cs → NzL (scl p b cs)
  | [], _, _, h => absurd rfl h.ne
  | [c], b, hb, h => by
    obtain ⟨x, e, n⟩ := h
    cases e
    exact ⟨c * b, rfl, Int.mul_ne_zero n hb⟩
  | c :: a :: r, b, hb, h => (scl_nz hp (a :: r) (b * p) (Int.mul_ne_zero hb hp) h.tail).cons
theorem nz_of_map {k : Int} {qs : List Int} (h : NzL (qs.map fun q => k * q)) : NzL qs := by
  obtain ⟨x, e, n⟩ := h
  rw [List.getLast?_map] at e
  cases hq : qs.getLast? with
  | none => rw [hq] at e; cases e
  | some y => rw [hq] at e; cases e; exact ⟨y, hq, fun z => n (by rw [z]; simp)⟩
/-- all numbers so many times divided -/
def dvs (p : Int) (n : Nat) (cs : List Int) : List Int := cs.map fun c => c / p ^ n
theorem dvs_len (p : Int) (n : Nat) (cs : List Int) : (dvs p n cs).length = cs.length := List.length_map ..
noncomputable def exps (p : Int) (cs : List Int) : List Int := (cs.filter fun c => decide (c ≠ 0)).map (vp p)
noncomputable def lfN (p : Int) (cs : List Int) : Nat := (leastI (exps p cs)).toNat
noncomputable def lfQ (p : Int) (cs : List Int) : List Int := dvs p (lfN p cs) cs
theorem lfQ_len (p : Int) (cs : List Int) : (lfQ p cs).length = cs.length := dvs_len ..
theorem exps_ne {p : Int} {cs : List Int} (h : NzL cs) : exps p cs ≠ [] := by
  obtain ⟨c, hc, n⟩ := h.mem
  intro z
  unfold exps at z
  rw [List.map_eq_nil_iff] at z
  have : c ∈ cs.filter fun c => decide (c ≠ 0) := List.mem_filter.mpr ⟨hc, decide_eq_true n⟩
  rw [z] at this; cases this
theorem exps_mem {p x : Int} {cs : List Int} (h : x ∈ exps p cs) : ∃ c ∈ cs, c ≠ 0 ∧ x = vp p c := by
  unfold exps at h
  obtain ⟨c, hc, rfl⟩ := List.mem_map.mp h
  obtain ⟨h1, h2⟩ := List.mem_filter.mp hc
  exact ⟨c, h1, of_decide_eq_true h2, rfl⟩
theorem vp_nn {p c : Int} (hp : 2 ≤ p) (h : c ≠ 0) : 0 ≤ vp p c := by
  obtain ⟨m, v, e, hm, hv⟩ := vp_spec hp h
  rw [hv]; omega
theorem lfN_eq {p : Int} {cs : List Int} (hp : 2 ≤ p) (h : NzL cs) : leastI (exps p cs) = lfN p cs := by
  obtain ⟨c, hc, n, e⟩ := exps_mem (leastI_mem (exps_ne (p := p) h))
  have := vp_nn hp n
  unfold lfN; omega
theorem lfN_dvd {p : Int} {cs : List Int} (hp : 2 ≤ p) (h : NzL cs) : ∀ c ∈ cs, c = p ^ lfN p cs * (c / p ^ lfN p cs) := by
  intro c hc
  have P : p ^ lfN p cs ≠ 0 := Int.pow_ne_zero (by omega)
  by_cases z : c = 0
  · subst z; simp
  · obtain ⟨m, v, e, hm, hv⟩ := vp_spec hp z
    have l : leastI (exps p cs) ≤ vp p c := leastI_le _ (by
      unfold exps
      exact List.mem_map.mpr ⟨c, List.mem_filter.mpr ⟨hc, decide_eq_true z⟩, rfl⟩)
    rw [lfN_eq hp h, hv] at l
    obtain ⟨k, rfl⟩ : ∃ k, v = lfN p cs + k := ⟨v - lfN p cs, by omega⟩
    rw [Int.mul_ediv_cancel']
    exact ⟨m * p ^ k, by rw [e, Int.pow_add]; grind⟩
theorem lfQ_eq {p : Int} {cs : List Int} (hp : 2 ≤ p) (h : NzL cs) : cs = (lfQ p cs).map fun q => p ^ lfN p cs * q := by
  unfold lfQ dvs
  rw [List.map_map]
  conv => lhs; rw [← List.map_id cs]
  exact List.map_congr_left fun c hc => lfN_dvd hp h c hc
theorem lfQ_no {p : Int} {cs : List Int} (hp : 2 ≤ p) (h : NzL cs) : ∃ q ∈ lfQ p cs, q % p ≠ 0 := by
  obtain ⟨c, hc, n, e⟩ := exps_mem (leastI_mem (exps_ne (p := p) h))
  obtain ⟨m, v, e2, hm, hv⟩ := vp_spec hp n
  have l := lfN_eq hp h
  refine ⟨c / p ^ lfN p cs, List.mem_map.mpr ⟨c, hc, rfl⟩, ?_⟩
  have : v = lfN p cs := by rw [hv] at e; omega
  rw [← this, e2, Int.mul_ediv_cancel _ (Int.pow_ne_zero (by omega))]
  exact hm
theorem lfQ_nz {p : Int} {cs : List Int} (hp : 2 ≤ p) (h : NzL cs) : NzL (lfQ p cs) := by
  have e := lfQ_eq hp h
  exact nz_of_map (k := p ^ lfN p cs) (by rw [← e]; exact h)
theorem lfQ_bd {p : Int} {cs : List Int} {m : Nat} (h : ∀ c ∈ cs, c.natAbs < 2 ^ m) : ∀ c ∈ lfQ p cs, c.natAbs < 2 ^ m := by
  intro q hq
  unfold lfQ dvs at hq
  obtain ⟨c, hc, rfl⟩ := List.mem_map.mp hq
  exact Nat.lt_of_le_of_lt (Int.natAbs_ediv_le_natAbs c _) (h c hc)
theorem ev_lfQ {p : Int} {cs : List Int} (hp : 2 ≤ p) (h : NzL cs) (z : Int) : ev cs z = p ^ lfN p cs * ev (lfQ p cs) z := by
  conv => lhs; rw [lfQ_eq hp h]
  exact ev_mul _ z _
/-- seen from one figure more -/
noncomputable def on1 (p : Int) (cs : List Int) (d : Int) : List Int := scl p 1 (shf d (cs.length - 1) cs)
theorem on1_len (p : Int) (cs : List Int) (d : Int) : (on1 p cs d).length = cs.length := by unfold on1; rw [scl_len, shf_len]
theorem on1_nz {p : Int} {cs : List Int} (hp : 2 ≤ p) (h : NzL cs) (d : Int) : NzL (on1 p cs d) := scl_nz (by omega) _ 1 (by omega) (shf_nz d _ cs h)
theorem on1_bd {p : Int} {cs : List Int} {d : Int} {m : Nat} (hp : p.natAbs < 127) (hd : d.natAbs < 127) (hl : cs.length ≤ 9) (h : ∀ c ∈ cs, c.natAbs < 2 ^ m) : ∀ c ∈ on1 p cs d, c.natAbs < 2 ^ (m + 600) := by
  intro c hc
  have b1 := shf_bd (d := d) (by omega) (cs.length - 1) m cs 9 hl h
  have b2 := scl_bd (p := p) (by omega) _ 1 _ 1 (by decide) b1 c hc
  refine Nat.lt_of_lt_of_le b2 (Nat.pow_le_pow_right (by omega) ?_)
  rw [shf_len]
  have : 7 * 9 * (cs.length - 1) ≤ 7 * 9 * 8 := Nat.mul_le_mul_left _ (by omega)
  omega
/-- seen from a stem -/
noncomputable def seeL (p : Int) : Nat × List Int → List Int → Nat × List Int
  | s, [] => s
  | s, d :: ds => seeL p (s.1 + lfN p (on1 p s.2 d), lfQ p (on1 p s.2 d)) ds
noncomputable def see (p : Int) (cs : List Int) (ds : List Int) : Nat × List Int := seeL p (lfN p cs, lfQ p cs) ds
/-- a stem's sum -/
def sm (p : Int) : List Int → Int
  | [] => 0
  | d :: ds => d + p * sm p ds
structure Seen (p : Int) (cs : List Int) (s : Int) (k : Nat) (t : Nat × List Int) : Prop where
  ev : ∀ z, ev cs (s + p ^ k * z) = p ^ t.1 * ev t.2 z
  nz : NzL t.2
  no : ∃ q ∈ t.2, q % p ≠ 0
  len : t.2.length = cs.length
theorem Seen.start {p : Int} {cs : List Int} (hp : 2 ≤ p) (h : NzL cs) : Seen p cs 0 0 (lfN p cs, lfQ p cs) :=
  ⟨fun z => by rw [Int.zero_add, Int.pow_zero, Int.one_mul]; exact ev_lfQ hp h z, lfQ_nz hp h, lfQ_no hp h, lfQ_len ..⟩
end PM
namespace PM
open PySem PySem.Spec L2 PL
open PyProof.Rows hiding St
end PM
set_option Elab.async false
set_option linter.all false
set_option maxRecDepth 100000
set_option autoImplicit false
set_option exponentiation.threshold 20000
namespace PM
open PySem PySem.Spec L2 PL
open PyProof.Rows hiding St
end PM
set_option Elab.async false
set_option linter.all false
set_option maxRecDepth 100000
set_option autoImplicit false
set_option exponentiation.threshold 20000
namespace PM
open PySem PySem.Spec L2 PL
open PyProof.Rows hiding St
theorem last_at0 {l : List Int} (h : l ≠ []) : l.getLast? = some (at0 l (l.length - 1)) := by
  have : 0 < l.length := List.length_pos_iff.mpr h
  unfold at0
  rw [List.getLast?_eq_getElem?, List.getD_eq_getElem?_getD, List.getElem?_eq_getElem (by omega)]
  rfl
theorem NzL.at {l : List Int} (h : NzL l) : at0 l (l.length - 1) ≠ 0 := by
  obtain ⟨x, e, n⟩ := h
  rw [last_at0 (fun z => by rw [z] at e; cases e)] at e
  cases e; exact n
theorem PolyI.nz {cs : List Int} (h : PolyI cs) : NzL cs := by
  have ne : cs ≠ [] := fun z => by have := h.1; rw [z] at this; simp at this
  exact ⟨_, last_at0 ne, fun z => h.2.2 (by rw [last_at0 ne, z])⟩
end PM
namespace PM
open PySem PySem.Spec L2 PL
open PyProof.Rows hiding St
end PM
namespace PM
open PySem PySem.Spec L2 PL
open PyProof.Rows hiding St
end PM
set_option Elab.async false
set_option linter.all false
set_option maxRecDepth 100000
set_option autoImplicit false
namespace PM
open PySem PySem.Spec L2 PL
open PyProof.Rows hiding St
end PM
set_option Elab.async false
set_option linter.all false
set_option maxRecDepth 100000
set_option autoImplicit false
set_option exponentiation.threshold 20000
namespace PM
open PySem PySem.Spec L2 PL
open PyProof.Rows hiding St
def slo (as : List Int) : List Int := (slp 0 as).drop 1
structure Row where
  stem : List Int
  word : Str
  num : Int
noncomputable def nxt (p : Int) (t : Nat × List Int) (d : Int) : Nat × List Int := (t.1 + lfN p (on1 p t.2 d), lfQ p (on1 p t.2 d))
/-- what stands at a stem of the tree -/
structure At (m : Nat) (t : Nat × List Int) : Prop where
  nz : NzL t.2
  l2 : 2 ≤ t.2.length
  l9 : t.2.length ≤ 9
  bd : ∀ c ∈ t.2, c.natAbs < 2 ^ m
theorem At.next {p d : Int} {m : Nat} {t : Nat × List Int} (h : At m t) (hp : 2 ≤ p ∧ p < 127) (hd : d.natAbs < 127) : At (m + 600) (nxt p t d) :=
  ⟨lfQ_nz (by omega) (on1_nz (by omega) h.nz d), by show 2 ≤ (lfQ p _).length; rw [lfQ_len, on1_len]; exact h.l2, by show (lfQ p _).length ≤ 9; rw [lfQ_len, on1_len]; exact h.l9, lfQ_bd (on1_bd (by omega) hd h.l9 h.bd)⟩
end PM
set_option Elab.async false
set_option linter.all false
set_option maxRecDepth 100000
set_option autoImplicit false
namespace PM
open PL (leastI leastI_mem leastI_le)
end PM
set_option Elab.async false
set_option linter.all false
set_option maxRecDepth 100000
set_option autoImplicit false
namespace PM
open PL (leastI leastI_mem leastI_le)
def Cg (p : Int) : List Int → List Int → Prop
  | [], [] => True
  | a :: as, b :: bs => p ∣ a - b ∧ Cg p as bs
  | _, _ => False
theorem Cg.refl (p : Int) : ∀ l : List Int, Cg p l l
  | [] => trivial
  | a :: l => ⟨by rw [Int.sub_self]; exact ⟨0, by simp⟩, Cg.refl p l⟩
/-- the derivative -/
def dv : List Int → Int → Int
  | [], _ => 0
  | _ :: r, x => ev r x + x * dv r x
def On (p : Int) (qs : List Int) (d : Int) : Prop := ev qs d % p = 0 ∧ ev (slo qs) d % p = 0
/-- the way to a stem leads on -/
def Pth (p : Int) (cs : List Int) (s : List Int) : Prop := ∀ a e b, s = a ++ e :: b → (0 ≤ e ∧ e < p) ∧ On p (see p cs a).2 e
theorem Pth.nil {p : Int} {cs : List Int} : Pth p cs [] := fun a e b h => by
  have := congrArg List.length h
  simp at this
end PM
set_option Elab.async false
set_option linter.all false
set_option maxRecDepth 100000
set_option autoImplicit false
set_option exponentiation.threshold 20000
namespace PM
open PySem PySem.Spec L2 PL
open PyProof.Rows hiding St
end PM
set_option Elab.async false
set_option linter.all false
set_option maxRecDepth 100000
set_option autoImplicit false
set_option exponentiation.threshold 20000
namespace PM
open PySem PySem.Spec L2 PL
open PyProof.Rows hiding St
def hit (p z : Int) (r : Row) : Bool := (z - sm p r.stem) % p ^ r.stem.length == 0
theorem ok_stem (l : List Int) : okD 30 (.tup (l.map PV.int)) = true := by rw [okD_tup]; simp
end PM
set_option Elab.async false
set_option linter.all false
set_option maxRecDepth 100000
set_option autoImplicit false
set_option exponentiation.threshold 20000
namespace PM
open PySem PySem.Spec L2 PL
open PyProof.Rows hiding St
end PM
set_option Elab.async false
set_option linter.all false
set_option maxRecDepth 100000
set_option autoImplicit false
set_option exponentiation.threshold 20000
namespace PM
open PySem PySem.Spec L2 PL
open PyProof.Rows hiding St
def sq2 (ds : List Int) : Bool := (ds.drop 1).take 2 == ([0, 0] : List Int).take (ds.length - 1)
theorem sl2 (ds : List Int) (h : ds ≠ []) : ∃ a b : PV, slP (.tup (ds.map PV.int)) (some 1) (some 3) = .ok a ∧ slP (.tup [.int 0, .int 0]) none (some ((ds.length : Int) - 1)) = .ok b ∧ neP a b = .ok (.bl (!sq2 ds)) ∧ eqP a b = .ok (.bl (sq2 ds)) := by
  have l1 : 1 ≤ ds.length := List.length_pos_iff.mpr h
  have e1 : slP (.tup (ds.map PV.int)) (some 1) (some 3) = .ok (.tup (((ds.drop 1).take 2).map PV.int)) := by
    rw [slP_t, cut_both _ _ _ (by omega) (by omega), ← List.map_drop, ← List.map_take]; rfl
  have e2' : slP (.tup [.int 0, .int 0]) none (some ((ds.length : Int) - 1)) = .ok (.tup ((([0, 0] : List Int).take (ds.length - 1)).map PV.int)) := by
    rw [slP_t, cut_take _ _ (by omega), show ((ds.length : Int) - 1).toNat = ds.length - 1 by omega, List.map_take]; rfl
  refine ⟨_, _, e1, e2', ?_, ?_⟩
  · rw [neP_ok (ok_stem _) (ok_stem _), eqV_tt, eqVs_ints]; rfl
  · rw [eqP_ok (ok_stem _) (ok_stem _), eqV_tt, eqVs_ints]; rfl
end PM
set_option Elab.async false
set_option linter.all false
set_option maxRecDepth 100000
set_option autoImplicit false
set_option exponentiation.threshold 20000
namespace PM
open PySem PySem.Spec L2 PL
open PyProof.Rows hiding St
end PM
set_option Elab.async false
set_option linter.all false
set_option maxRecDepth 100000
set_option autoImplicit false
set_option exponentiation.threshold 20000
namespace PM
open PySem PySem.Spec L2 PL
open PyProof.Rows hiding St
/-- a fraction is alike, up to a stem's length, to its sum -/
def ins (p : Int) (r : Row) (q : Int × Int) : Bool := (q.1 - q.2 * sm p r.stem) % p ^ r.stem.length == 0
end PM
set_option Elab.async false
set_option linter.all false
set_option maxRecDepth 100000
set_option autoImplicit false
set_option exponentiation.threshold 20000
namespace PM
open PySem PySem.Spec L2 PL
open PyProof.Rows hiding St
def gd (p : Int) : PV → Bool
  | .int d => decide (0 ≤ d) && decide (d < p)
  | _ => false
end PM
set_option Elab.async false
set_option linter.all false
set_option maxRecDepth 100000
set_option autoImplicit false
namespace PM
open PySem PySem.Spec L2 PL
open PyProof.Rows hiding St
noncomputable def D_number_of : Rho → Out := (bSeq (sSet 1 (eV 0)) (bSeq (sIf (tB1 (eM stwP (eVo 0) (eC (.str "-")))) (bSeq (sSet 1 (eSl slP (eVo 0) (oSome (eC (.int 1))) oNone)) bNil) bNil) (bSeq (sIf (tOr' (tB1 (e2 eqP (eVo 1) (eC (.str "")))) (tOr' (tB1 (e2 gtP (eD lenP (aCons (eVo 1) aNil)) (eC (.int 31)))) (tB1 (eD anyP (aCons (eLc [2] (iStrP (eVo 1)) (gN 2) cYes (e2 notInS (eVo 2) (eC (.str "0123456789")))) aNil))))) (bSeq (sRaise "NoText") bNil) bNil) (bSeq (sIf (tAn (tB1 (e2 eqP (e2 ixP (eVo 1) (eC (.int 0))) (eC (.str "0")))) (tB1 (e2 neP (eVo 0) (eC (.str "0"))))) (bSeq (sRaise "NoText") bNil) bNil) (bSeq (sRet (eD intS (aCons (eVo 0) aNil))) bNil)))))
noncomputable def F_number_of : List PV → R PV := runF 3 D_number_of
end PM
set_option Elab.async false
set_option linter.all false
set_option maxRecDepth 100000
set_option autoImplicit false
set_option exponentiation.threshold 20000
namespace PM
open PySem PySem.Spec L2 PL TL
open PyProof.Rows hiding St
def tx (l : List Nat) : Str := ⟨l.toArray⟩
theorem tl_tx (l : List Nat) : tl (tx l) = l := rfl
theorem tx_tl (x : Str) : tx (tl x) = x := mk_tl x
theorem tx_len (l : List Nat) : (tx l).length = l.length := by rw [len_tl, tl_tx]
theorem tx_app (a b : List Nat) : tx a ++ tx b = tx (a ++ b) := ext_tl (by rw [tl_append]; rfl)
theorem tx_inj {a b : List Nat} (h : tx a = tx b) : a = b := congrArg tl h
theorem tx_eq (a b : List Nat) : (tx a == tx b) = decide (a = b) := by
  by_cases h : a = b
  · subst h; simp
  · rw [decide_eq_false h]
    exact beq_eq_false_iff_ne.mpr fun z => h (tx_inj z)
/-- signs of the lower kind -/
def Asc (l : List Nat) : Prop := ∀ c ∈ l, c < 128
theorem Asc.app {a b : List Nat} (h1 : Asc a) (h2 : Asc b) : Asc (a ++ b) := fun c h => (List.mem_append.mp h).elim (h1 c) (h2 c)
theorem Asc.take {a : List Nat} (h : Asc a) (n : Nat) : Asc (a.take n) := fun c z => h c ((List.take_sublist _ _).subset z)
theorem Asc.drop {a : List Nat} (h : Asc a) (n : Nat) : Asc (a.drop n) := fun c z => h c ((List.drop_sublist _ _).subset z)
theorem Asc.left {a b : List Nat} (h : Asc (a ++ b)) : Asc a := fun c z => h c (List.mem_append_left _ z)
theorem Asc.right {a b : List Nat} (h : Asc (a ++ b)) : Asc b := fun c z => h c (List.mem_append_right _ z)
theorem Asc.cons {c : Nat} {a : List Nat} (h : c < 128) (h2 : Asc a) : Asc (c :: a) := fun d z => (List.mem_cons.mp z).elim (fun e => e ▸ h) (h2 d)
theorem Asc.nil : Asc [] := fun _ z => nomatch z
theorem strOk_tx {l : List Nat} (h : Asc l) : PySem.PyData.strOk (tx l) = true := by
  unfold PyData.strOk
  rw [Array.all_eq_true_iff_forall_mem]
  intro c hc
  have := h c (by simpa [tx] using hc)
  simp; omega
theorem eqP_tx {a b : List Nat} (ha : Asc a) (hb : Asc b) : eqP (.str (tx a)) (.str (tx b)) = .ok (.bl (decide (a = b))) := by
  rw [eqP_ok (by simp [okD, strOk_tx ha]) (by simp [okD, strOk_tx hb]), eqV', tx_eq]
theorem neP_tx {a b : List Nat} (ha : Asc a) (hb : Asc b) : neP (.str (tx a)) (.str (tx b)) = .ok (.bl (!decide (a = b))) := by
  rw [neP_ok (by simp [okD, strOk_tx ha]) (by simp [okD, strOk_tx hb]), eqV', tx_eq]
theorem lenP_tx {l : List Nat} (h : l.length ≤ 1000000) : lenP [.str (tx l)] = .ok (.int l.length) := by
  unfold lenP
  dsimp only
  rw [if_pos (by rw [tx_len]; show l.length ≤ 2 ^ 24; omega), tx_len]
theorem addP_tx {a b : List Nat} (h : a.length + b.length ≤ 1000000) : addP (.str (tx a)) (.str (tx b)) = .ok (.str (tx (a ++ b))) := by
  unfold addP
  dsimp only
  rw [if_pos (by rw [tx_len, tx_len]; show _ ≤ 2 ^ 24; omega), tx_app]
theorem slP_tx {l : List Nat} (lo hi : Option Int) (h : l.length ≤ 1000000) : slP (.str (tx l)) lo hi = .ok (.str (tx (cutG l lo hi))) := by
  unfold slP
  dsimp only
  rw [if_pos (by rw [tx_len]; show _ ≤ 2 ^ 24; omega)]
  refine congrArg (fun s => R.ok (PV.str s)) (ext_tl ?_)
  unfold cutS cutG
  rw [tx_len]
  rfl
theorem ixP_tx {l : List Nat} {k : Int} {c : Nat} (h0 : 0 ≤ k) (hc : l[k.toNat]? = some c) (h : l.length ≤ 1000000) : ixP (.str (tx l)) (.int k) = .ok (.str (tx [c])) := by
  unfold ixP
  dsimp only
  rw [if_pos (by rw [tx_len]; show _ ≤ 2 ^ 24; omega), show (tx l).cps.toList = l from rfl, atI_at h0, hc]
  rfl
theorem stwP_tx (a b : List Nat) : stwP (.str (tx a)) (.str (tx b)) = .ok (.bl (decide (b.length ≤ a.length) && decide (a.take b.length = b))) := by
  unfold stwP Txt.startswith
  dsimp only
  rw [tx_len, tx_len, PySem.StrLaws.subAt_eq, tx_len, Nat.zero_add]
  refine congrArg (fun b => R.ok (PV.bl b)) ?_
  congr 1
  rw [show (tx a).cps.toList = a from rfl, show (tx b).cps.toList = b from rfl, List.drop_zero]
  by_cases h : a.take b.length = b
  · rw [h]; simp
  · rw [decide_eq_false h]; exact beq_eq_false_iff_ne.mpr h
theorem inS_tx (c : Nat) (l : List Nat) : inS (.str (tx [c])) (.str (tx l)) = .ok (.bl (decide (c ∈ l))) := by
  unfold inS; rfl
theorem notInS_tx (c : Nat) (l : List Nat) : notInS (.str (tx [c])) (.str (tx l)) = .ok (.bl (!decide (c ∈ l))) := by
  unfold notInS; rfl
theorem signs_tx (l : List Nat) : signsP (tx l) = l.map fun c => PV.str (tx [c]) := rfl
@[simp] theorem iStrP_eq {f : Rho → R PV} {ρ : Rho} : iStrP f ρ = (f ρ).bind fun p => match p with
  | .str x => .ok (signsP x)
  | _ => .stuck := nr rfl
@[simp] theorem eM_eq {g : PV → PV → R PV} {f h : Rho → R PV} {ρ : Rho} : eM g f h ρ = (f ρ).bind fun p => match p with
  | .str _ => (h ρ).bind fun q => g p q
  | _ => .stuck := nr rfl
theorem s_digits : Str.ofString "0123456789" = tx [48, 49, 50, 51, 52, 53, 54, 55, 56, 57] := by decide +kernel
theorem s_dash : Str.ofString "-" = tx [45] := by decide +kernel
theorem s_empty : Str.ofString "" = tx [] := by decide +kernel
theorem s_zero : Str.ofString "0" = tx [48] := by decide +kernel
theorem s_blank : Str.ofString " " = tx [32] := by decide +kernel
theorem s_colon : Str.ofString ":" = tx [58] := by decide +kernel
def numT (i : Int) : List Nat := if i < 0 then 45 :: numL i.natAbs else numL i.natAbs
theorem s_num (i : Int) : Str.ofString (toString i) = tx (numT i) := by
  refine ext_tl ?_
  rw [tl_tx]
  unfold numT
  cases i with
  | ofNat n => rw [if_neg (by simp)]; exact tl_num n
  | negSucc n =>
    rw [if_pos (Int.negSucc_lt_zero n)]
    have e : toString (Int.negSucc n) = "-" ++ toString (((n + 1 : Nat) : Nat) : Int) := rfl
    rw [e, tl_ofString, String.toList_append, List.map_append, ← tl_ofString, ← tl_ofString, tl_num]
    rfl
theorem strP_num {i : Int} (h : i.natAbs < 2 ^ 1900) : strP [.int i] = .ok (.str (tx (numT i))) := by
  unfold strP
  have : i.natAbs.log2 < 1920 := by
    by_cases z : i.natAbs = 0
    · rw [z]; decide
    · exact (Nat.log2_lt z).mpr (Nat.lt_of_lt_of_le h (Nat.pow_le_pow_right (by omega) (by omega)))
  dsimp only
  rw [if_pos this]
  exact congrArg (fun s => R.ok (PV.str s)) (s_num i)
def isDig (c : Nat) : Bool := decide (48 ≤ c ∧ c ≤ 57)
/-- the figures of a word -/
def figs (l : List Nat) : List Nat := if l.head? = some 45 then l.tail else l
def numOk (l : List Nat) : Bool := !(figs l).isEmpty && decide ((figs l).length ≤ 31) && (figs l).all isDig && !(decide ((figs l).head? = some 48) && !decide (l = [48]))
def numVal (l : List Nat) : Int := if l.head? = some 45 then -((NumText.digitsVal (figs l) : Nat) : Int) else ((NumText.digitsVal (figs l) : Nat) : Int)
theorem isDig_mem (c : Nat) : isDig c = decide (c ∈ [48, 49, 50, 51, 52, 53, 54, 55, 56, 57]) := by
  unfold isDig
  refine decide_eq_decide.mpr ?_
  simp
  omega
theorem figs_sub (l : List Nat) : figs l = l ∨ figs l = l.drop 1 := by
  unfold figs
  split
  · right; exact List.drop_one.symm
  · left; rfl
theorem intS_val {l : List Nat} (h : numOk l = true) : intS [.str (tx l)] = .ok (.int (numVal l)) := by
  unfold numOk at h
  simp only [Bool.and_eq_true, decide_eq_true_eq] at h
  obtain ⟨⟨⟨h1, h2⟩, h3⟩, _⟩ := h
  have hd : NumText.AllDigits (figs l) := fun c hc => by
    have := List.all_eq_true.mp h3 c hc
    unfold isDig at this
    simpa using this
  have hne : figs l ≠ [] := fun z => by rw [z] at h1; cases h1
  have e : PySem.intText? (tx l) = some (numVal l) := by
    unfold numVal
    by_cases hh : l.head? = some 45
    · rw [if_pos hh]
      obtain ⟨r, rfl⟩ : ∃ r, l = 45 :: r := by
        cases l with
        | nil => cases hh
        | cons c r => simp at hh; subst hh; exact ⟨r, rfl⟩
      have ef : figs (45 :: r) = r := rfl
      rw [ef] at hd hne h2 ⊢
      exact PySem.intText_neg (x := tx (45 :: r)) rfl hd hne (by rw [tx_len, List.length_cons]; omega)
    · rw [if_neg hh]
      have ef : figs l = l := by unfold figs; rw [if_neg hh]
      rw [ef] at hd hne h2 ⊢
      exact PySem.intText_digits (x := tx l) hd hne (by rw [tx_len]; omega)
  have hl : (tx l).length ≤ 640 := by
    rw [tx_len]
    rcases figs_sub l with z | z
    · rw [z] at h2; omega
    · rw [z, List.length_drop] at h2; omega
  unfold intS
  dsimp only
  rw [e]
  dsimp only
  rw [if_pos hl]
theorem Asc.figs {l : List Nat} (h : Asc l) : Asc (figs l) := by
  rcases figs_sub l with z | z <;> rw [z]
  · exact h
  · exact h.drop 1
theorem figs_len (l : List Nat) : (figs l).length ≤ l.length := by
  rcases figs_sub l with z | z <;> rw [z]
  · exact Nat.le_refl _
  · rw [List.length_drop]; omega
theorem f_number_of (l : List Nat) (ha : Asc l) (hl : l.length ≤ 100000) : F_number_of [.str (tx l)] = if numOk l = true then .ok (.int (numVal l)) else .exc "NoText" := by
  refine (runF_eq (n := 3) (u := D_number_of)).trans ?_
  show (D_number_of [.val (.str (tx l)), .un, .un]).res = _
  have af := ha.figs
  have lf := figs_len l
  have e1 : stwP (.str (tx l)) (.str (Str.ofString "-")) = .ok (.bl (decide (l.head? = some 45))) := by
    rw [s_dash, stwP_tx]
    refine congrArg (fun b => R.ok (PV.bl b)) ?_
    cases l with
    | nil => rfl
    | cons c r => simp
  have q2 : slP (.str (tx l)) (some 1) none = .ok (.str (tx (l.drop 1))) := by rw [slP_tx _ _ (by omega), cut_drop _ _ (by omega)]; rfl
  have e3 : eqP (.str (tx (figs l))) (.str (Str.ofString "")) = .ok (.bl (figs l).isEmpty) := by
    rw [s_empty, eqP_tx af Asc.nil]
    cases figs l <;> simp
  have e4 := lenP_tx (l := figs l) (by omega)
  have e5 : gtP (.int ((figs l).length : Int)) (.int 31) = .ok (.bl (!decide ((figs l).length ≤ 31))) := by
    rw [gtP_ii]
    refine congrArg (fun b => R.ok (PV.bl b)) ?_
    by_cases h : (figs l).length ≤ 31
    · rw [decide_eq_true h, decide_eq_false (by omega)]; rfl
    · rw [decide_eq_false h, decide_eq_true (by omega)]; rfl
  have lc : lcGo (gN 2) cYes (e2 notInS (eVo 2) (eC (.str (Str.ofString "0123456789")))) [.val (.str (tx l)), .val (.str (tx (figs l))), .un] (signsP (tx (figs l))) = .ok (((figs l).map fun c => !isDig c).map PV.bl) := by
    rw [signs_tx]
    rw [lcGo_map (fun q => match q with | .str z => .bl (match tl z with | [c] => !isDig c | _ => false) | q => q) _ fun q hq => ?_, List.map_map, List.map_map]
    · rfl
    · obtain ⟨c, _, rfl⟩ := List.mem_map.mp hq
      refine ⟨_, rfl, ?_⟩
      have : notInS (.str (tx [c])) (.str (Str.ofString "0123456789")) = .ok (.bl (!isDig c)) := by rw [s_digits, notInS_tx, isDig_mem]
      simpa [tl_tx] using this
  have e6 := eLc_ok (vs := [2]) (it := iStrP (eVo 1)) (ρ := [.val (.str (tx l)), .val (.str (tx (figs l))), .un]) rfl (by simp) (by rw [signs_tx, List.length_map]; omega) lc
  have e7 : ((figs l).map fun c => !isDig c).any id = !((figs l).all isDig) := by
    rw [List.any_map, List.not_all_eq_any_not]
    rfl
  have e8 := anyP_bl ((figs l).map fun c => !isDig c)
  rw [e7] at e8
  obtain ⟨bs, hbs⟩ : ∃ bs, bs = (figs l).map fun c => !isDig c := ⟨_, rfl⟩
  rw [← hbs] at e6 e8
  -- the first two steps
  have s12 : ∀ {r : R PV} (k : Rho → Out), (k [.val (.str (tx l)), .val (.str (tx (figs l))), .un]).res = r → (bSeq (sSet 1 (eV 0)) (bSeq (sIf (tB1 (eM stwP (eVo 0) (eC (.str "-")))) (bSeq (sSet 1 (eSl slP (eVo 0) (oSome (eC (.int 1))) oNone)) bNil) bNil) k) [.val (.str (tx l)), .un, .un]).res = r := fun {r} k g => by
    refine stp (.str (tx l)) (by simp) ?_
    simp only [List.set_cons_succ, List.set_cons_zero]
    refine stpW (decide (l.head? = some 45)) (.str (tx (l.drop 1))) (.str (tx l)) (.str (tx (figs l))) (by simp [e1]) (fun _ => by simp [q2]) rfl ?_ ?_
    · unfold figs
      by_cases h : l.head? = some 45
      · rw [if_pos h, decide_eq_true h, if_pos rfl, List.drop_one]
      · rw [if_neg h, decide_eq_false h]; rfl
    · simp only [List.set_cons_succ, List.set_cons_zero]
      exact g
  unfold D_number_of
  refine s12 _ ?_
  by_cases h1 : (figs l).isEmpty = false ∧ (figs l).length ≤ 31 ∧ (figs l).all isDig = true
  · obtain ⟨h1, h2, h3⟩ := h1
    refine skp (by simp [e3, h1, e4, e5, h2, e6, e8, h3]) ?_
    obtain ⟨c, r, hc⟩ : ∃ c r, figs l = c :: r := by
      cases hf : figs l with
      | nil => rw [hf] at h1; cases h1
      | cons c r => exact ⟨c, r, rfl⟩
    have e9 : ixP (.str (tx (figs l))) (.int 0) = .ok (.str (tx [c])) := ixP_tx (by omega) (by rw [hc]; rfl) (by omega)
    have e10 : eqP (.str (tx [c])) (.str (Str.ofString "0")) = .ok (.bl (decide (c = 48))) := by
      rw [s_zero, eqP_tx (fun d hd => af d (by rw [hc]; rw [List.mem_singleton.mp hd]; exact List.mem_cons_self)) (by intro d hd; rw [List.mem_singleton.mp hd]; omega)]
      simp
    have e11 : neP (.str (tx l)) (.str (Str.ofString "0")) = .ok (.bl (!decide (l = [48]))) := by
      rw [s_zero, neP_tx ha (by intro d hd; rw [List.mem_singleton.mp hd]; omega)]
    have hd : (figs l).head? = some 48 ↔ c = 48 := by rw [hc]; simp
    by_cases h4 : c = 48 ∧ ¬ l = [48]
    · have no : numOk l = false := by
        unfold numOk
        rw [decide_eq_true (hd.mpr h4.1), decide_eq_false h4.2]; simp
      rw [no, if_neg Bool.false_ne_true]
      rw [decide_eq_true h4.1] at e10
      rw [decide_eq_false h4.2] at e11
      refine ifT (by simp [e9, e10, e11]) ?_
      simp
    · have yes : numOk l = true := by
        unfold numOk
        rw [h1, decide_eq_true h2, h3]
        by_cases h5 : c = 48
        · rw [decide_eq_true (hd.mpr h5), decide_eq_true (Classical.byContradiction fun z => h4 ⟨h5, z⟩)]; rfl
        · rw [decide_eq_false (fun z => h5 (hd.mp z))]; rfl
      rw [yes, if_pos rfl]
      have i := intS_val yes
      refine skp ?_ ?_
      · by_cases h5 : c = 48
        · have h6 : l = [48] := Classical.byContradiction fun z => h4 ⟨h5, z⟩
          have e11' : neP (.str (tx l)) (.str (Str.ofString "0")) = .ok (.bl false) := by rw [e11, decide_eq_true h6]; rfl
          have e10' : eqP (.str (tx [c])) (.str (Str.ofString "0")) = .ok (.bl true) := by rw [e10, decide_eq_true h5]
          simp [e9, e10', e11']
        · have e10' : eqP (.str (tx [c])) (.str (Str.ofString "0")) = .ok (.bl false) := by rw [e10, decide_eq_false h5]
          simp [e9, e10']
      · simp [i]
  · have no : numOk l = false := by
      unfold numOk
      by_cases a : (figs l).isEmpty = false
      · by_cases b : (figs l).length ≤ 31
        · have c : (figs l).all isDig = false := by
            cases h : (figs l).all isDig with
            | false => rfl
            | true => exact absurd ⟨a, b, h⟩ h1
          rw [c]; simp
        · rw [decide_eq_false b]; simp
      · have : (figs l).isEmpty = true := by simpa using a
        rw [this]; simp
    rw [no, if_neg Bool.false_ne_true]
    refine ifT ?_ (by simp)
    by_cases a : (figs l).isEmpty = true
    · rw [a] at e3
      simp [e3]
    · have a' : (figs l).isEmpty = false := by simpa using a
      rw [a'] at e3
      by_cases b : (figs l).length ≤ 31
      · have c : (figs l).all isDig = false := by
          cases h : (figs l).all isDig with
          | false => rfl
          | true => exact absurd ⟨a', b, h⟩ h1
        rw [decide_eq_true b] at e5
        rw [c] at e8
        simp only [Bool.not_true, Bool.not_false] at e5 e8
        simp [e3, e4, e5, e6, e8]
      · rw [decide_eq_false b] at e5
        simp only [Bool.not_true, Bool.not_false] at e5
        simp [e3, e4, e5]
theorem digit_all (n : Nat) : (numL n).all isDig = true := List.all_eq_true.mpr fun c hc => by
  have := numL_digits n c hc
  unfold isDig; simpa using this
theorem numL_head {n : Nat} (h : 0 < n) : (numL n).head? ≠ some 48 := by
  induction n using Nat.strongRecOn with
  | _ n ih =>
    by_cases h2 : n < 10
    · rw [numL_lt h2]; simp; omega
    · rw [numL_step (by omega)]
      have := ih (n / 10) (by omega) (by omega)
      cases hn : numL (n / 10) with
      | nil => exact absurd hn (numL_ne _)
      | cons c r => rw [hn] at this; simpa using this
theorem numL_45 (n : Nat) : (numL n).head? ≠ some 45 := fun z => by
  have := numL_digits n 45 (List.mem_of_head? z)
  omega
theorem figs_num (i : Int) : figs (numT i) = numL i.natAbs := by
  unfold numT figs
  split
  · rw [if_pos (by rfl)]; rfl
  · rw [if_neg (numL_45 _)]
theorem numT_ok (i : Int) (h : i.natAbs < 10 ^ 31) : numOk (numT i) = true := by
  unfold numOk
  rw [figs_num, digit_all]
  have e1 : (numL i.natAbs).isEmpty = false := by
    cases hn : numL i.natAbs with
    | nil => exact absurd hn (numL_ne _)
    | cons => rfl
  have e2 := numL_len (k := 31) (by omega) h
  rw [e1, decide_eq_true e2]
  by_cases z : i = 0
  · subst z
    have : numT 0 = [48] := by decide +kernel
    rw [this]; simp
  · rw [decide_eq_false (numL_head (by omega))]; rfl
theorem numT_val (i : Int) : numVal (numT i) = i := by
  unfold numVal
  rw [figs_num, numL_val]
  unfold numT
  by_cases h : i < 0
  · rw [if_pos h, if_pos (by rfl)]; omega
  · rw [if_neg h, if_neg (numL_45 _)]; omega
theorem numT_free {s : Nat} (i : Int) (h : s < 45 ∨ s = 46 ∨ s = 47 ∨ 57 < s) : s ∉ numT i := by
  have := numL_free (n := i.natAbs) (s := s)
  unfold numT
  by_cases z : s < 48 ∨ 57 < s
  · split
    · intro hm
      rcases List.mem_cons.mp hm with e | e
      · omega
      · exact this z e
    · exact this z
  · omega
theorem numT_asc (i : Int) : Asc (numT i) := fun c hc => by
  apply Classical.byContradiction
  intro z
  exact numT_free (s := c) i (by omega) hc
theorem numT_len (i : Int) {k : Nat} (hk : 0 < k) (h : i.natAbs < 10 ^ k) : (numT i).length ≤ k + 1 := by
  have := numL_len hk h
  unfold numT
  split
  · rw [List.length_cons]; omega
  · omega
theorem f_number_num (i : Int) (h : i.natAbs < 10 ^ 31) : F_number_of [.str (tx (numT i))] = .ok (.int i) := by
  have l := numT_len i (k := 31) (by omega) h
  rw [f_number_of _ (numT_asc i) (by omega), numT_ok i h, if_pos rfl, numT_val]
end PM
set_option Elab.async false
set_option linter.all false
set_option maxRecDepth 100000
set_option autoImplicit false
noncomputable section
namespace PH
open PySem PySem.Spec L2 PL
open PyProof.Rows hiding St
abbrev AlT : Type := Bool × List He.FnW
/-- two names for two maps, so that the kernel does not compare what they map by -/
def mapO (K : PySem.W.Frag) (fn : List He.DefD) : List He.FnW := fn.rec [] fun d _ r => He.fnW K d.at_ :: r
def mapV (fn : List He.DefD) : List He.FnW := fn.foldr (fun d r => d.val :: r) []
theorem mapO_eq (K : PySem.W.Frag) : ∀ fn : List He.DefD, mapO K fn = fn.map fun d => He.fnW K d.at_
  | [] => rfl
  | d :: r => congrArg (He.fnW K d.at_ :: ·) (mapO_eq K r)
theorem mapV_eq : ∀ fn : List He.DefD, mapV fn = fn.map He.DefD.val
  | [] => rfl
  | d :: r => congrArg (d.val :: ·) (mapV_eq r)
def obsT (t : PySem.W.Frag → List (List Bool)) (fn : List He.DefD) (K : PySem.W.Frag) : AlT := (((t K).all fun l => l.all id) && fn.all fun d => d.ok K, mapO K fn)
def valT (fn : List He.DefD) : AlT := (true, mapV fn)
def SaysT (t : PySem.W.Frag → List (List Bool)) (fn : List He.DefD) (K : PySem.W.Frag) : Prop := obsT t fn K = valT fn
/-- what the module's names stand for (what is no def ahead of the defs), then what these name: codes, defaults, a class's names; then the methods, then their codes -/
def lowR (o : Obj) : List Addr := match o.data with
  | .func fd => He.refV fd.code ++ He.refV fd.defaults
  | .cls cd => [cd.ns]
  | _ => []
def isFu (g : Addr → Option Obj) (a : Addr) : Bool := match g a with
  | some ⟨_, _, .func _, _⟩ => true
  | _ => false
def namR (o : Obj) : List Addr := match o.data with
  | .dict es _ => es.toList.flatMap fun e => He.refV e.val
  | _ => []
def stepR (r : Obj → List Addr) (g : Addr → Option Obj) (as : List Addr) : List Addr := as.flatMap fun a => match g a with
  | some o => r o
  | none => []
def asK (g : Addr → Option Obj) : Nat → List Addr
  | 0 => mainGlobals :: stepR namR g [mainGlobals]
  | 1 =>
    let l := stepR namR g [mainGlobals]
    let cs := l.filter fun a => !isFu g a
    let fs := l.filter (isFu g)
    let ns := stepR lowR g cs
    let ms := stepR namR g ns
    mainGlobals :: (cs ++ (ns ++ (ms ++ (stepR lowR g ms ++ (fs ++ stepR lowR g fs)))))
  | _ => []
def obsTG (n : Nat) (t : PySem.W.Frag → List (List Bool)) (fn : List He.DefD) (g : Addr → Option Obj) : AlT := obsT t fn (He.frG g (asK g n))
def hookT (n : Nat) (t : PySem.W.Frag → List (List Bool)) (fn : List He.DefD) : PySem.W.Hook where
  α := AlT
  obs := fun s => obsTG n t fn s.heap.get?
  val := fun _ => valT fn
  says := fun _ h => ∃ K : PySem.W.Frag, K.In h ∧ SaysT t fn K
  of := fun _ _ e => ⟨_, He.frG_in, e⟩
  keeps := fun _ _ _ ⟨K, hK, c⟩ k => ⟨K, PySem.W.Frag.In.keeps hK k, c⟩
theorem obsTG_eq {n : Nat} {t : PySem.W.Frag → List (List Bool)} {fn : List He.DefD} {g : Addr → Option Obj} {s : Shared} (h : ∀ a, g a = s.heap.get? a) : obsTG n t fn g = (hookT n t fn).obs s := by
  have e : g = s.heap.get? := funext h
  rw [e] <;> rfl
def obT (n : Nat) (t : PySem.W.Frag → List (List Bool)) (fn : List He.DefD) (s : PySem.W.SharedT) : AlT := obsTG n t fn (HandSHeadRun.getT s)
theorem obT_eq {n : Nat} {t : PySem.W.Frag → List (List Bool)} {fn : List He.DefD} (s : PySem.W.SharedT) : obT n t fn s = (hookT n t fn).obs s.abs := obsTG_eq (HandSHeadRun.getT_eq s)
section
variable {t : PySem.W.Frag → List (List Bool)} {fn : List He.DefD} {K : PySem.W.Frag}
theorem SaysT.chunk (c : SaysT t fn K) (i : Nat) {l : List Bool} (h : (t K)[i]? = some l) : l.all id = true := by
  have c1 := (He.ba (show (((t K).all fun l => l.all id) && fn.all fun d => d.ok K) = true from congrArg (fun z : AlT => z.1) c)).1
  exact List.all_eq_true.mp c1 l (List.mem_of_getElem? h)
theorem fact {l : List Bool} (h : l.all id = true) (i : Nat) {b : Bool} (e : l[i]? = some b) : b = true := List.all_eq_true.mp h b (List.mem_of_getElem? e)
theorem SaysT.def_ (c : SaysT t fn K) (i : Nat) {d : He.DefD} (h : fn[i]? = some d) : ∃ fd, FunD K d.name d.qual d.params d.body d.scope (d.dvs K) (d.kws K) (He.fAd K d.at_) fd := by
  have c2 := (He.ba (show (((t K).all fun l => l.all id) && fn.all fun d => d.ok K) = true from congrArg (fun z : AlT => z.1) c)).2
  have e : fn.map (fun d => He.fnW K d.at_) = fn.map He.DefD.val := by
    rw [← mapO_eq, ← mapV_eq]
    exact congrArg (fun z : AlT => z.2) c
  have e2 : (fn.map fun d => He.fnW K d.at_)[i]? = (fn.map He.DefD.val)[i]? := by rw [e]
  rw [List.getElem?_map, List.getElem?_map, h] at e2
  exact He.DefD.funD (Option.some.inj e2) (List.all_eq_true.mp c2 d (List.mem_of_getElem? h))
end
/-- what the walk wants of a def -/
theorem lok {K : PySem.W.Frag} {x q : Str} {st : Stmt} {f : Addr} (h : ∃ fd, FunD K x q (defArgs st) (defBody st) (defScope st) [] [] f fd) :
    ∃ (oc : Value) (od : Option Addr) (kV doc pm : Value) (an : Option Addr) (cdv ct : Value) (osl : Array (Option Value)), K.lookup f = some ⟨oc, od, .func (PySem.W.fnOf x q (defArgs st) (defBody st) (defScope st) .none kV doc pm an cdv ct), osl⟩ ∧ PySem.W.codeIn K cdv q = true ∧ PySem.W.keepIn K (.ref f) = true := by
  obtain ⟨fd, ⟨⟨oc, od, dV, kV, dc, pm, an, cd, ct, sl, rfl, l, c, dd, _⟩, k⟩⟩ := h
  rcases dd with ⟨_, rfl⟩ | ⟨z, _⟩
  · exact ⟨oc, od, kV, dc, pm, an, cd, ct, sl, l, c, k⟩
  · exact absurd rfl z
/-- .. of a def whose last parameter has the default 1 -/
theorem lokD {K : PySem.W.Frag} {x q : Str} {st : Stmt} {f : Addr} (h : ∃ fd, FunD K x q (defArgs st) (defBody st) (defScope st) [.int 1] [] f fd) :
    ∃ (oc : Value) (od : Option Addr) (T : Addr) (kV doc pm : Value) (an : Option Addr) (cdv ct : Value) (osl : Array (Option Value)) (tc : Value) (td : Option Addr) (tt : Tok) (tm : Nat) (tl : Array (Option Value)), K.lookup f = some ⟨oc, od, .func (PySem.W.fnOf x q (defArgs st) (defBody st) (defScope st) (.ref T) kV doc pm an cdv ct), osl⟩ ∧ PySem.W.codeIn K cdv q = true ∧ PySem.W.keepIn K (.ref f) = true ∧ K.lookup T = some ⟨tc, td, .seq #[.int 1 tt] tm, tl⟩ := by
  obtain ⟨fd, ⟨⟨oc, od, dV, kV, dc, pm, an, cd, ct, sl, rfl, l, c, dd, _⟩, k⟩⟩ := h
  rcases dd with ⟨z, _⟩ | ⟨_, T, ob, its, m, rfl, lt, he, hv⟩
  · exact nomatch z
  · obtain ⟨tc, td, dt, tl⟩ := ob
    cases hv with
    | cons h1 h2 =>
      cases h2
      obtain ⟨tt, rfl⟩ := h1
      have he' : dt = Data.seq #[.int 1 tt] m := by simpa using he
      subst he'
      exact ⟨oc, od, T, kV, dc, pm, an, cd, ct, sl, tc, td, tt, m, tl, l, c, k, lt⟩
def intB (K : PySem.W.Frag) (x : Str) (i : Int) : Bool := match PySem.W.nsIn K mainGlobals x with
  | some (some (.int j _)) => decide (j = i)
  | _ => false
theorem intB_ok {K : PySem.W.Frag} {x : Str} {i : Int} (h : intB K x i = true) : ∃ t, PySem.W.nsIn K mainGlobals x = some (some (.int i t)) := by
  unfold intB at h
  cases e : PySem.W.nsIn K mainGlobals x with
  | none => rw [e] at h; cases h
  | some o =>
    rw [e] at h
    cases o with
    | none => cases h
    | some v =>
      cases v with
      | int j t => rw [← of_decide_eq_true h]; exact ⟨t, rfl⟩
      | _ => cases h
def strB (K : PySem.W.Frag) (x : Str) (i : Str) : Bool := match PySem.W.nsIn K mainGlobals x with
  | some (some (.str j _)) => decide (j = i)
  | _ => false
theorem strB_ok {K : PySem.W.Frag} {x : Str} {i : Str} (h : strB K x i = true) : ∃ t, PySem.W.nsIn K mainGlobals x = some (some (.str i t)) := by
  unfold strB at h
  cases e : PySem.W.nsIn K mainGlobals x with
  | none => rw [e] at h; cases h
  | some o =>
    rw [e] at h
    cases o with
    | none => cases h
    | some v =>
      cases v with
      | str j t => rw [← of_decide_eq_true h]; exact ⟨t, rfl⟩
      | _ => cases h
theorem walk_ofEB {l : PySem.W.OpenLaw} {n k : Nat} {q : Program} {loose : List Str} {XP : (Str → Option Value) → Heap → Prop} {YP : World → Heap → Prop} {d : DefRec} {CX : World → CXT} {x : Str}
    (hn : l.most = some n) (hn2 : n ≤ sizeLine) (hdf : d.params.defaults = []) (hr : Room k callerA)
    (F : ∀ (w : World) (mg : Str → Option Value) (fa : Addr) (h : Heap), YP w h → h.Ns mainGlobals mg → mg d.name = some (.ref fa) →
      ∃ (K : PySem.W.Frag) (fd : FuncData) (sp : Sp), K.In h ∧ (∀ (s : Shared) (u : Value), BindsTo s fd ⟨[u], []⟩ [(x, u)]) ∧
        (∀ (H : Hp) (a : Addr) (ns : List Int), ns.length ≤ n → (∀ z ∈ ns, Builtin.Int.intBits z ≤ 1048576) → Only H → SqL K H a (ns.map V.int) → sp [.ref a] H (fun v _ => v = .bl true) fun _ _ _ => False) ∧
        ∀ base : Heap, K.In base → base.Ns mainGlobals mg → FnOk l.prog w K mg base (CX w) k fa fd [x] sp)
    (hCX : ∀ (w : World) (H : Hp) (s : Shared) (e : Value) (s' : Shared), CX w [] H s (fun _ _ _ => False) e s' → False) :
    PySem.W.WalkO q loose XP YP l.row.toRowW d [] (fun f vs => PySem.call f vs) := by
  refine Att.attach_callB hn hdf fun w s₀ s₁ mg mb fa o pm cd doc a vs ns G Y ho hd hcd hmg hobj hints hlen hbits hg => ?_
  obtain ⟨K, fd, sp, KX, hb, hsp, hF⟩ := F w mg fa _ Y G.T.g hmg
  exact law_call KX G.T.g G.T.b G.T.builtins G.T.nolimit hg hobj hints (Nat.le_trans hlen hn2) hr hF hb (fun H hO hS => hsp H a ns hlen hbits hO hS) fun H e s' => hCX w H s₁ e s'
end PH
end
set_option Elab.async false
set_option linter.all false
set_option maxRecDepth 100000
set_option autoImplicit false
namespace PL
open PySem PySem.Spec L2
open PyProof.Rows hiding St
def repS : PV → PV → R PV
  | .str x, .int k => if (decide (2 ≤ k) && (decide (k ≤ 1000) && (decide (1 ≤ x.length) && decide (x.length ≤ 1000)))) = true then .ok (.str ⟨(List.replicate k.toNat x.cps).foldl (· ++ ·) #[]⟩) else .stuck
  | _, _ => .stuck
theorem repS_exc (p q : PV) (c : Str) : repS p q ≠ .exc c := by
  unfold repS; split <;> (try split) <;> exact fun z => nomatch z
def rRepS : R2 := fun x y H Q => ∃ (z : Str) (k : Int), x = .str z ∧ y = .int k ∧ 2 ≤ k ∧ k ≤ 1000 ∧ 1 ≤ z.length ∧ z.length ≤ 1000 ∧ Q (.str ⟨(List.replicate k.toNat z.cps).foldl (· ++ ·) #[]⟩) H
theorem fold_size (a : Array Nat) : ∀ (n : Nat) (acc : Array Nat), ((List.replicate n a).foldl (· ++ ·) acc).size = acc.size + n * a.size
  | 0, acc => by simp
  | n + 1, acc => by
    rw [List.replicate_succ, List.foldl_cons, fold_size a n, Array.size_append, Nat.add_mul]
    omega
theorem op_repS {X : Cx} : OpR X (binaryOp .Mult) rRepS := by
  intro pins s σ H x y v u Q I rx ry h
  obtain ⟨z, k, rfl, rfl, k2, k1000, l1, l1000, q⟩ := h
  obtain ⟨t, rfl⟩ := rx
  obtain ⟨t', rfl⟩ := ry
  have e1 : ¬ k < 1 := by omega
  have e2 : (k == 1 || z.length == 0) = false := by
    rw [Bool.or_eq_false_iff, beq_eq_false_iff_ne, beq_eq_false_iff_ne]
    omega
  have hk : z.length * k.toNat ≤ 1000 * 1000 := Nat.mul_le_mul l1000 (by omega)
  refine PySem.P.mul_str (by rw [decide_eq_false (by omega), decide_eq_false (by omega)]; rfl) (fun _ _ => ?_) (fun _ _ => ?_) ?_
  · have : 1000 ≤ (2 ^ 63 - 1) / k := (Int.le_ediv_iff_mul_le (by omega)).mpr (by omega)
    omega
  · unfold Builtin.Str.tooLong
    rw [sizeLine_eq]
    exact decide_eq_false (by omega)
  · rw [if_neg e1, e2, if_neg Bool.false_ne_true]
    refine ⟨?_, .str _, H, I.tok _, ⟨_, rfl⟩, q⟩
    show ((List.replicate k.toNat z.cps).foldl (· ++ ·) #[]).size ≤ sizeLine
    rw [fold_size, sizeLine_eq]
    have : k.toNat * z.cps.size ≤ 1000 * 1000 := Nat.mul_le_mul (by omega) l1000
    show 0 + _ ≤ _
    omega
theorem s_repS (K : PySem.W.Frag) : OpS K rRepS .t .t .s repS := by
  intro H0 O0 σ ρ H H2 x y p q Q S s rx ry G
  unfold repS at G
  split at G
  · split at G
    · rename_i hz
      rw [Bool.and_eq_true, Bool.and_eq_true, Bool.and_eq_true, decide_eq_true_eq, decide_eq_true_eq, decide_eq_true_eq, decide_eq_true_eq] at hz
      rw [rt_str rx, rt_int ry]
      exact ⟨_, _, rfl, rfl, hz.1, hz.2.1, hz.2.2.1, hz.2.2.2, G _ _ (Same.refl _) (.str _)⟩
    · exact G.elim
  · exact G.elim
section
variable {X : Cx} {W : WX} {a b : Expr} {pos : Pos} {f g : Rho → R PV}
theorem e_repS (ha : EJ X W .t a f) (hb : EJ X W .t b g) : EJ X W .s (.BinOp a .Mult b pos) (e2 repS f g) := e_op op_repS repS_exc (s_repS _) ha hb
end
theorem fold_toL (l : List Nat) : ∀ (n : Nat) (acc : List Nat), (List.replicate n l.toArray).foldl (· ++ ·) acc.toArray = (acc ++ (List.replicate n l).flatten).toArray
  | 0, acc => by simp
  | n + 1, acc => by
    rw [List.replicate_succ, List.foldl_cons, List.append_toArray, fold_toL l n (acc ++ l), List.replicate_succ, List.flatten_cons, List.append_assoc]
theorem repS_ok {l : List Nat} {k : Int} (h2 : 2 ≤ k) (h3 : k ≤ 1000) (h1 : 1 ≤ l.length) (hl : l.length ≤ 1000) : repS (.str ⟨l.toArray⟩) (.int k) = .ok (.str ⟨(List.replicate k.toNat l).flatten.toArray⟩) := by
  have e := fold_toL l k.toNat []
  rw [List.nil_append] at e
  have hs : (⟨l.toArray⟩ : Str).length = l.length := by show l.toArray.size = _; simp
  unfold repS
  dsimp only
  rw [hs, if_pos (by rw [decide_eq_true h2, decide_eq_true h3, decide_eq_true h1, decide_eq_true hl]; rfl)]
  exact congrArg (fun z => R.ok (PV.str ⟨z⟩)) e
end PL
set_option Elab.async false
set_option linter.all false
set_option maxRecDepth 100000
set_option autoImplicit false
namespace PL
open PySem PySem.Spec L2
open PyProof.Rows hiding St
theorem reps_lookup {K : PySem.W.Frag} {H : Hp} {O : Addr → Prop} {nm : Str} {q : PV} : ∀ {fs : List (Str × V)} {ps : List PV}, Reps K H O (fs.map (·.2)) ps → ((fs.map (·.1)).zip ps).lookup nm = some q → ∃ v, fs.lookup nm = some v ∧ Rep K H O v q
  | [], _, _, h => by cases h
  | (g, v) :: fs, _, .cons r rs, h => by
    rw [List.map_cons, List.zip_cons_cons, List.lookup_cons] at h
    rw [List.lookup_cons]
    cases e : nm == g with
    | true => rw [e] at h; cases h; exact ⟨v, rfl, r⟩
    | false => rw [e] at h; exact reps_lookup rs h
theorem lookup_none {nm : Str} : ∀ {fs : List (Str × V)}, nm ∉ fs.map (·.1) → fs.lookup nm = none
  | [], _ => rfl
  | (g, v) :: fs, h => by
    rw [List.map_cons] at h
    rw [List.lookup_cons, beq_eq_false_iff_ne.mpr fun z => h (by rw [z]; exact List.mem_cons_self)]
    exact lookup_none fun z => h (List.mem_cons_of_mem _ z)
def eFld (nm : Str) (fo : Rho → R PV) : Rho → R PV := fun ρ => (fo ρ).bind fun p => match p with
  | .obj _ ns fs => match (ns.zip fs).lookup nm with
    | some q => .ok q
    | none => .stuck
  | _ => .stuck
section
variable {X : Cx} {W : WX} {e o : Expr} {es : List Expr} {pos apos p : Pos} {f fo : Rho → R PV} {fA : Rho → R (List PV)}
theorem e_fld {nm : Str} (hn : nm ∈ (["part", "one", "other", "n"] : List Str)) (he : EJ X W .s e f) (hb : attributeBase e nm X.env (eval e X.env) = eval e X.env := by rfl) : EJ X W .s (.Attribute e nm pos) (eFld nm f) := by
  refine pe_imp (pe_fld he hb) fun σ H Q ⟨H0, O0, ρ, S, G⟩ => ⟨H0, O0, ρ, S, ?_⟩
  revert G
  unfold eFld
  cases f ρ with
  | stuck => exact False.elim
  | exc c => exact id
  | ok q =>
    rw [R.bind_ok]
    cases q with
    | obj C ns fs =>
      dsimp only
      split
      · rename_i z hz
        intro G v H1 s1 r1
        have r1 : Rep X.K H1 (OO O0 σ ρ) v (.obj C ns fs) := r1
        cases r1 with
        | @obj a _ dx gs _ _ h n en c r =>
          subst en
          obtain ⟨u, hu, ru⟩ := reps_lookup r hz
          exact ⟨a, C, dx, gs, u, rfl, h, c.cl, c.na nm hn, hu, G _ _ s1 ru⟩
      · exact False.elim
    | _ => exact False.elim
def tMethSD (C : Addr) (m : Str) (sp : Sp) (E : St → XK) (ta : TE) (t : TA) : TE := fun σ H Q => ta σ H fun x H1 => ∃ a dx fs, x = .ref a ∧ H1 a = some (.ins C dx fs) ∧ fs.lookup m = none ∧ t σ H1 fun vs H2 => sp (x :: vs) H2 Q (E σ)
theorem pe_methSD0 {m : Str} {C g : Addr} {k : Nat} {fd : FuncData} {ps : List Str} {sp : Sp} {CX : CXT} {E : St → XK} {ta : TE} {pl : Sem Bool} (he : PE X o ta) (c : Cls X.K C) (hm : Meth X.K C m g) (F : FnOk X.prog X.w X.K X.mg X.base CX k g fd ps sp) (hr : Room k X.A) (hb : L2.Binds X.K fd ps []) (hx : ∀ σ, PassesAt CX X σ (E σ))
    (ht : eval (.Call (.Attribute o m apos) [] [] pos) X.env = (do
      let ov ← eval o X.env
      standAt apos.atName
      let (f, first) ← holding [ov] (getMethod ov m pl)
      callWith pos f first (backTo pos (starEach [] X.env)) (backToKw pos (keywordEach [] X.env))) := by rfl) :
    PE X (.Call (.Attribute o m apos) [] [] pos) (tMethSD C m sp E ta tNil) := by
  refine ⟨fun pins s σ H Q I h => ?_⟩
  refine PySem.W.methodCall_KW (pl := pl) (thn (he.run pins s σ H _ I h) fun u s1 ⟨x, H1, I1, rx, a, dx, fs, ex, ea, l, q⟩ => ?_) ht
  subst ex
  obtain rfl : u = Value.ref a := rx
  refine getmeth_ok I1 ea c hm l ?_
  exact PySem.W.callWith_K0 (first := [.ref a]) I1.kIn hm.kp (run_fnSD (us := [.ref a]) (vs := [.ref a]) (dvs := []) F hr hb .nil (hx σ) I1 (.cons rfl .nil) (by rw [List.append_nil]; exact q))
end
/-- a method, by the class -/
def Okm (P : Program) (w : World) (K : PySem.W.Frag) (mg : Str → Option Value) (base : Heap) (m : Str) (Cs : List Addr) (k n : Nat) (nw : Bool) (G : Addr → List PV → R PV) : Prop :=
  ∀ C ∈ Cs, Cls K C ∧ ∃ f fd ps, Meth K C m f ∧ L2.Binds K fd ps [] ∧ FnOk P w K mg base (L2N.CX P w) k f fd ps (spF K mg n nw (G C))
def eMeth (m : Str) (Cs : List Addr) (G : Addr → List PV → R PV) (fo : Rho → R PV) (fA : Rho → R (List PV)) : Rho → R PV := fun ρ => (fo ρ).bind fun p => match p with
  | .obj C ns fs => if C ∈ Cs ∧ m ∉ ns then (fA ρ).bind fun ps => G C (.obj C ns fs :: ps) else .stuck
  | _ => .stuck
section
variable {X : Cx} {W : WX} {e o : Expr} {es : List Expr} {pos apos p : Pos} {f fo : Rho → R PV} {fA : Rho → R (List PV)}
theorem t_meth {m : Str} {Cs : List Addr} {n : Nat} {nw : Bool} {G : Addr → List PV → R PV} {args : List Expr} {ta : TA} (hne : Cs ≠ [])
    (hp : ∀ C ∈ Cs, PE X (.Call (.Attribute o m apos) args [] pos) (tMethSD C m (spF X.K X.mg n nw (G C)) (fun σ cls d H => W cls d σ H) (tE X.K X.mg W .s fo) ta))
    (hta : ∀ σ H Q, tA X.K X.mg W .s fA σ H Q → ta σ H Q) (hal : ∀ ρ ps, fA ρ = .ok ps → ps.length + 1 = n) : EJ X W (mdR nw) (.Call (.Attribute o m apos) args [] pos) (eMeth m Cs G fo fA) := by
  refine ⟨fun pins s σ H Q I h => ?_⟩
  obtain ⟨H0, O0, ρ, S, G0⟩ := h
  suffices q : ∃ C ∈ Cs, tMethSD C m (spF X.K X.mg n nw (G C)) (fun σ cls d H => W cls d σ H) (tE X.K X.mg W .s fo) ta σ H Q by
    obtain ⟨C, hC, q⟩ := q
    exact (hp C hC).run pins s σ H Q I q
  revert G0
  unfold eMeth
  cases hf : fo ρ with
  | stuck => exact False.elim
  | exc c =>
    intro G0
    obtain ⟨C, hC⟩ := List.exists_mem_of_ne_nil _ hne
    exact ⟨C, hC, H0, O0, ρ, S, by rw [hf]; exact G0⟩
  | ok q =>
    rw [R.bind_ok]
    cases q with
    | obj C ns fs =>
      dsimp only
      split
      · rename_i hc
        intro G0
        refine ⟨C, hc.1, H0, O0, ρ, S, ?_⟩
        rw [hf]
        intro v H1 s1 r1
        have r1 : Rep X.K H1 (OO O0 σ ρ) v (.obj C ns fs) := r1
        have r1' := r1
        cases r1' with
        | @obj a _ dx gs _ _ h nn en c r =>
          refine ⟨a, dx, gs, rfl, h, lookup_none (by rw [en]; exact hc.2), hta _ _ _ ⟨H0, O0, ρ, S.step s1, ?_⟩⟩
          revert G0
          cases hA : fA ρ with
          | stuck => exact False.elim
          | exc c => exact fun G0 C H' s' e => G0 C H' (s1.trans s') e
          | ok ps =>
            rw [R.bind_ok]
            intro G0 vs H2 s2 r2
            have rr := reps_of r2
            refine ⟨.obj C ns fs :: ps, OO O0 σ ρ, fun a z => ((S.step s1).step s2).there z, .cons (r1.same s2) rr, by rw [List.length_cons, rr.length, hal ρ ps hA], ?_⟩
            revert G0
            cases G C (.obj C ns fs :: ps) with
            | stuck => exact id
            | exc c => exact fun G C H' s' e => G C H' ((s1.trans s2).trans s') e
            | ok p =>
              intro G v H' s' r'
              refine G v H' ((s1.trans s2).trans s') ?_
              cases nw with
              | false => exact r'
              | true =>
                rcases r' with z | ⟨a, vs', ps', q1, q2, q3, q4, q5⟩
                · exact .inl z
                · exact .inr ⟨a, vs', ps', q1, q2, (s1.trans s2).free q3, q4, q5⟩
      · exact False.elim
    | _ => exact False.elim
theorem e_meth0 {m : Str} {Cs : List Addr} {k j : Nat} {nw : Bool} {G : Addr → List PV → R PV} {pl : Sem Bool} (h : Okm X.prog X.w X.K X.mg X.base m Cs j 1 nw G) (hr : Room k X.A) (hjk : j ≤ k) (tk : L2N.Takes X W) (hne : Cs ≠ []) (ho : EJ X W .s o fo)
    (ht : eval (.Call (.Attribute o m apos) [] [] pos) X.env = (do
      let ov ← eval o X.env
      standAt apos.atName
      let (f, first) ← holding [ov] (getMethod ov m pl)
      callWith pos f first (backTo pos (starEach [] X.env)) (backToKw pos (keywordEach [] X.env))) := by rfl) : EJ X W (mdR nw) (.Call (.Attribute o m apos) [] [] pos) (eMeth m Cs G fo aNil) :=
  t_meth hne (fun C hC => by
    obtain ⟨c, f, fd, ps, hm, hb, F⟩ := h C hC
    exact pe_methSD0 ho c hm F (hr.mono hjk) hb (fun σ => L2N.passAt tk σ) ht) (fun σ H Q ⟨H0, O0, ρ, S, G⟩ => G [] H (Same.refl H) .nil) (fun ρ ps h => by cases h; rfl)
def spInit (K : PySem.W.Frag) (ns : List Str) : Sp := fun vs H Q _ => ∃ x dx C ws, vs = .ref x :: ws ∧ ws.length = ns.length ∧ H x = some (.ins C dx []) ∧ ObjC K C ∧ Q .non (upd H x (.ins C dx (ns.zip ws)))
structure MkE (P : Program) (w : World) (K : PySem.W.Frag) (mg : Str → Option Value) (base : Heap) (x : Str) (C : Addr) (ns : List Str) (k : Nat) : Prop where
  ex : ∃ f fd ps, Mk K C f ∧ L2.Binds K fd ps [] ∧ FnOk P w K mg base (L2N.CX P w) k f fd ps (spInit K ns)
  g : mg x = some (.ref C)
  c : ObjC K C
def eMk (C : Addr) (ns : List Str) (fA : Rho → R (List PV)) : Rho → R PV := fun ρ => (fA ρ).bind fun ps => if ps.length = ns.length then .ok (.obj C ns ps) else .stuck
theorem zipN_fst : ∀ {ns : List Str} {vs : List V}, vs.length = ns.length → (ns.zip vs).map (·.1) = ns ∧ (ns.zip vs).map (·.2) = vs
  | [], [], _ => ⟨rfl, rfl⟩
  | n :: ns, v :: vs, h => by
    have := zipN_fst (ns := ns) (vs := vs) (by simpa using h)
    rw [List.zip_cons_cons, List.map_cons, List.map_cons, this.1, this.2]
    exact ⟨rfl, rfl⟩
theorem e_mk {x : Str} {C : Addr} {ns : List Str} {k j : Nat} (h : MkE X.prog X.w X.K X.mg X.base x C ns j) (hr : Room k X.A) (hjk : j + 1 ≤ k) (hg : Gl X x) (ha : AJ X W .s (e :: es) fA) (hdb : (x == ("__debug__" : Str)) = false := by decide)
    (he : starEach (e :: es) X.env = (false, eval e X.env) :: starEach es X.env := by rfl) (hpl : (backTo pos (starEach es X.env)).any (·.1) = false := by rfl) : EJ X W .s (.Call (.Name x p) (e :: es) [] pos) (eMk C ns fA) := by
  obtain ⟨⟨f, fd, ps, M, b, F⟩, g, c⟩ := h
  refine pe_imp (pe_make (ds := []) (dvs := []) M F (hr.mono hjk) hg g b .nil passLN ha hdb he hpl) fun σ H Q ⟨H0, O0, ρ, S, G⟩ => ⟨H0, O0, ρ, S, ?_⟩
  revert G
  unfold eMk
  cases fA ρ with
  | stuck => exact False.elim
  | exc c => exact id
  | ok qs =>
    rw [R.bind_ok]
    split
    · rename_i hl
      intro G vs H1 s1 r1 y dy ny ndy ne
      have rr := reps_of r1
      have lv : vs.length = ns.length := by rw [rr.length]; exact hl
      refine ⟨y, dy, C, vs, by rw [List.append_nil], lv, upd_same, c, rfl, ?_⟩
      rw [upd_upd]
      have sm : Same H1 (upd (upd H1 dy (.own y)) y (.ins C dy (ns.zip vs))) := fun b o z => by
        rw [upd_ne (ne_of_none z ny), upd_ne (ne_of_none z ndy)]; exact z
      refine G _ _ (s1.trans sm) ?_
      show Rep X.K _ (OO O0 σ ρ) (.ref y) (.obj C ns qs)
      exact .obj upd_same (fun z => (S.step s1).there z ny) (zipN_fst lv).1 c (by rw [(zipN_fst lv).2]; exact rr.same sm)
    · exact False.elim
end
def addrOf (mg : Str → Option Value) (x : Str) : Addr := match mg x with
  | some (.ref a) => a
  | _ => 0
theorem addrOf_eq {mg : Str → Option Value} {x : Str} {C : Addr} (h : mg x = some (.ref C)) : addrOf mg x = C := by unfold addrOf; rw [h]
structure ClsE (K : PySem.W.Frag) (mg : Str → Option Value) (x : Str) : Prop where
  g : mg x = some (.ref (addrOf mg x))
  c : ObjC K (addrOf mg x)
/-- a method m of the class x -/
def MethE (K : PySem.W.Frag) (mg : Str → Option Value) (x m qual : Str) (st : Stmt) (ps : List Str) : Prop := ∃ f fd, Meth K (addrOf mg x) m f ∧ Fun K m qual st f fd ∧ L2.Binds K fd ps []
def MakeE (K : PySem.W.Frag) (mg : Str → Option Value) (x qual : Str) (st : Stmt) (ps : List Str) : Prop := ∃ f fd, Mk K (addrOf mg x) f ∧ Fun K "__init__" qual st f fd ∧ L2.Binds K fd ps []
section
variable {h : Heap} {K : PySem.W.Frag} {mg : Str → Option Value}
theorem clsE_mk (X : K.In h) (G : h.Ns mainGlobals mg) {x : Str} {C : Addr} (a : PySem.W.nsIn K mainGlobals x = some (some (.ref C))) (c : ObjC K C) : ClsE K mg x := by
  have e := addrOf_eq (PySem.W.mg_of X G a)
  exact ⟨by rw [e]; exact PySem.W.mg_of X G a, by rw [e]; exact c⟩
theorem methE_mk (X : K.In h) (G : h.Ns mainGlobals mg) {x m qual : Str} {st : Stmt} {ps : List Str} {C f : Addr} {od an : Option Addr} {sl : Array (Option Value)} {oc kV dc pm cd ct : Value}
    (a : PySem.W.nsIn K mainGlobals x = some (some (.ref C))) (b : PySem.W.findIn K (.ref C) m = some (some (.ref f))) (i : PySem.W.isFn K (.ref f) = true)
    (l : K.lookup f = some ⟨oc, od, .func (PySem.W.fnOf m qual (defArgs st) (defBody st) (defScope st) .none kV dc pm an cd ct), sl⟩) (c : PySem.W.codeIn K cd qual = true) (k : PySem.W.keepIn K (.ref f) = true)
    (hb : ∀ (kV doc pm : Value) (an : Option Addr) (cdv ct : Value) (us : List Value), us.length = ps.length → bindArgs (PySem.W.fnOf m qual (defArgs st) (defBody st) (defScope st) .none kV doc pm an cdv ct) ⟨us, []⟩ = pure (ps.zip us)) : MethE K mg x m qual st ps := by
  have e := addrOf_eq (PySem.W.mg_of X G a)
  refine ⟨f, _, ?_, fun_mk l c k, (fun_mk l c k).binds hb⟩
  rw [e]; exact ⟨b, i, k⟩
theorem makeE_mk (X : K.In h) (G : h.Ns mainGlobals mg) {x qual : Str} {st : Stmt} {ps : List Str} {C f : Addr} {od an : Option Addr} {sl : Array (Option Value)} {oc kV dc pm cd ct : Value}
    (a : PySem.W.nsIn K mainGlobals x = some (some (.ref C))) (mk : PySem.W.makesIn K C = true) (kc : PySem.W.keepIn K (.ref C) = true) (b : PySem.W.findIn K (.ref C) "__init__" = some (some (.ref f))) (i : PySem.W.isFn K (.ref f) = true)
    (l : K.lookup f = some ⟨oc, od, .func (PySem.W.fnOf "__init__" qual (defArgs st) (defBody st) (defScope st) .none kV dc pm an cd ct), sl⟩) (c : PySem.W.codeIn K cd qual = true) (k : PySem.W.keepIn K (.ref f) = true)
    (hb : ∀ (kV doc pm : Value) (an : Option Addr) (cdv ct : Value) (us : List Value), us.length = ps.length → bindArgs (PySem.W.fnOf "__init__" qual (defArgs st) (defBody st) (defScope st) .none kV doc pm an cdv ct) ⟨us, []⟩ = pure (ps.zip us)) : MakeE K mg x qual st ps := by
  have e := addrOf_eq (PySem.W.mg_of X G a)
  refine ⟨f, _, ?_, fun_mk l c k, (fun_mk l c k).binds hb⟩
  rw [e]; exact ⟨mk, b, i, kc⟩
variable {P : Program} {w : World} {base : Heap}
theorem meth_fn {x m qual : Str} {st : Stmt} {N ps : List Str} {k n : Nat} {nw : Bool} {g : Rho → Out} (T : MethE K mg x m qual st ps) (S : FnScope N ps (defScope st)) (hn : n = ps.length) (hnw : nw = true → ∀ l, ∀ ρ, g l ≠ .next ρ)
    (hbody : ∀ (f : Addr) (cdv : Value) (A : Around) (outer : List PySem.Env) (s : Shared) (H : Hp) (E : XK), Room k (A.deeper (envOfC qual (defScope st) s.heap.objs.size f cdv)) →
      BJ (cxOf (L2N.CX P w) P w K mg base N qual (defScope st) f cdv A outer s H E) (fun cls d _ H => E cls d H) nw (defBody st) g) :
    ∃ f fd ps, Meth K (addrOf mg x) m f ∧ L2.Binds K fd ps [] ∧ FnOk P w K mg base (L2N.CX P w) (k + 1) f fd ps (spF K mg n nw (runF N.length g)) := by
  obtain ⟨f, fd, M, F, b⟩ := T
  exact ⟨f, fd, ps, M, b, fn_mk F S hn hnw (hbody f)⟩
theorem meth_stuck {x m qual : Str} {st : Stmt} {ps : List Str} {k n : Nat} {nw : Bool} (T : MethE K mg x m qual st ps) (hn : n = ps.length) :
    ∃ f fd ps, Meth K (addrOf mg x) m f ∧ L2.Binds K fd ps [] ∧ FnOk P w K mg base (L2N.CX P w) k f fd ps (spF K mg n nw fun _ => .stuck) := by
  obtain ⟨f, fd, M, F, b⟩ := T
  refine ⟨f, fd, ps, M, b, ⟨fun vs H Q E h => ?_, fun A outer s H args us vs Q E _ _ _ _ h => ?_⟩⟩
  · obtain ⟨_, _, _, _, e, _⟩ := h
    exact e.trans hn
  · obtain ⟨_, _, _, _, _, z⟩ := h
    exact z.elim
/-- a table by classes -/
def pick (L : List (Addr × (List PV → R PV))) (C : Addr) : List PV → R PV := match L.lookup C with
  | some F => F
  | none => fun _ => .stuck
theorem lookup_nodup {α : Type} : ∀ {L : List (Addr × α)}, (L.map (·.1)).Nodup → ∀ t ∈ L, L.lookup t.1 = some t.2
  | [], _, t, h => nomatch h
  | (D, c) :: L, hn, t, h => by
    rw [List.map_cons, List.nodup_cons] at hn
    rw [List.lookup_cons]
    rcases List.mem_cons.mp h with e | h
    · subst e; simp
    · have : (t.1 == D) = false := beq_eq_false_iff_ne.mpr fun z => hn.1 (by rw [← z]; exact List.mem_map.mpr ⟨t, h, rfl⟩)
      rw [this]
      exact lookup_nodup hn.2 t h
theorem okm_pick {m : Str} {L : List (Addr × (List PV → R PV))} {k n : Nat} {nw : Bool} (hn : (L.map (·.1)).Nodup)
    (h : ∀ t ∈ L, Cls K t.1 ∧ ∃ f fd ps, Meth K t.1 m f ∧ L2.Binds K fd ps [] ∧ FnOk P w K mg base (L2N.CX P w) k f fd ps (spF K mg n nw t.2)) : Okm P w K mg base m (L.map (·.1)) k n nw (pick L) := fun C hC => by
  obtain ⟨t, ht, rfl⟩ := List.mem_map.mp hC
  have e : pick L t.1 = t.2 := by unfold pick; rw [lookup_nodup hn t ht]
  rw [e]
  exact h t ht
end
def cs6 (M : Str → Addr) : List Addr := [M "Part", M "Sum", M "Difference", M "Product", M "Quotient", M "Power"]
def cs4 (M : Str → Addr) : List Addr := [M "Sum", M "Difference", M "Product", M "Quotient"]
def tab6 (M : Str → Addr) (a b c d e f : List PV → R PV) : List (Addr × (List PV → R PV)) := [(M "Part", a), (M "Sum", b), (M "Difference", c), (M "Product", d), (M "Quotient", e), (M "Power", f)]
def tab4 (M : Str → Addr) (b c d e : List PV → R PV) : List (Addr × (List PV → R PV)) := [(M "Sum", b), (M "Difference", c), (M "Product", d), (M "Quotient", e)]
theorem cs4_nodup {M : Str → Addr} (h : (cs6 M).Nodup) : (cs4 M).Nodup := by
  unfold cs6 at h
  unfold cs4
  simp only [List.nodup_cons, List.mem_cons, List.not_mem_nil, or_false, not_or] at h ⊢
  exact ⟨h.2.1.imp_right (fun z => ⟨z.1, z.2.1⟩), h.2.2.1.imp_right (fun z => z.1), h.2.2.2.1.1, id, List.nodup_nil⟩
end PL
set_option Elab.async false
set_option linter.all false
set_option maxRecDepth 100000
set_option autoImplicit false
namespace PM
open PySem PySem.Spec L2 PL
open PyProof.Rows hiding St
noncomputable def D_Sum_sign (M : Str → Addr) : Rho → Out := (bSeq (sRet (eC (.str "+"))) bNil)
noncomputable def D_Difference_sign (M : Str → Addr) : Rho → Out := (bSeq (sRet (eC (.str "-"))) bNil)
noncomputable def D_Product_sign (M : Str → Addr) : Rho → Out := (bSeq (sRet (eC (.str "*"))) bNil)
noncomputable def D_Quotient_sign (M : Str → Addr) : Rho → Out := (bSeq (sRet (eC (.str ":"))) bNil)
noncomputable def G_sign (M : Str → Addr) : Addr → List PV → R PV := pick (tab4 M (runF 1 (D_Sum_sign M)) (runF 1 (D_Difference_sign M)) (runF 1 (D_Product_sign M)) (runF 1 (D_Quotient_sign M)))
noncomputable def D_Part_shown (M : Str → Addr) : Rho → Out := (bSeq (sIf (tB1 (e2 eqP (e2 ixP (eFld "part" (eV 0)) (eC (.int 1))) (eC (.int 1)))) (bSeq (sRet (eD strP (aCons (e2 ixP (eFld "part" (eV 0)) (eC (.int 0))) aNil))) bNil) bNil) (bSeq (sRet (e2 addP (e2 addP (eD strP (aCons (e2 ixP (eFld "part" (eV 0)) (eC (.int 0))) aNil)) (eC (.str "/"))) (eD strP (aCons (e2 ixP (eFld "part" (eV 0)) (eC (.int 1))) aNil)))) bNil))
noncomputable def D_Pair_shown (M : Str → Addr) (V : Addr → List PV → R PV) : Rho → Out := (bSeq (sRet (e2 addP (e2 addP (e2 addP (e2 addP (e2 addP (e2 addP (eC (.str "(")) (eMeth "shown" (cs6 M) V (eFld "one" (eV 0)) aNil)) (eC (.str " "))) (eMeth "sign" (cs4 M) (G_sign M) (eV 0) aNil)) (eC (.str " "))) (eMeth "shown" (cs6 M) V (eFld "other" (eV 0)) aNil)) (eC (.str ")")))) bNil)
noncomputable def D_Power_shown (M : Str → Addr) (V : Addr → List PV → R PV) : Rho → Out := (bSeq (sRet (e2 addP (e2 addP (e2 addP (e2 addP (eC (.str "(")) (eMeth "shown" (cs6 M) V (eFld "one" (eV 0)) aNil)) (eC (.str " ^ "))) (eD strP (aCons (eFld "n" (eV 0)) aNil))) (eC (.str ")")))) bNil)
noncomputable def G_shown (M : Str → Addr) : Nat → Addr → List PV → R PV
  | 0 => pick (tab6 M (fun _ => .stuck) (fun _ => .stuck) (fun _ => .stuck) (fun _ => .stuck) (fun _ => .stuck) (fun _ => .stuck))
  | n + 1 => pick (tab6 M (runF 1 (D_Part_shown M)) (runF 1 (D_Pair_shown M (G_shown M n))) (runF 1 (D_Pair_shown M (G_shown M n))) (runF 1 (D_Pair_shown M (G_shown M n))) (runF 1 (D_Pair_shown M (G_shown M n))) (runF 1 (D_Power_shown M (G_shown M n))))
noncomputable def D_Term_weight (M : Str → Addr) : Rho → Out := (bSeq (sRet (eC (.int 1))) bNil)
noncomputable def D_Pair_weight (M : Str → Addr) (V : Addr → List PV → R PV) : Rho → Out := (bSeq (sRet (e2 addP (eMeth "weight" (cs6 M) V (eFld "one" (eV 0)) aNil) (eMeth "weight" (cs6 M) V (eFld "other" (eV 0)) aNil))) bNil)
noncomputable def D_Power_weight (M : Str → Addr) (V : Addr → List PV → R PV) : Rho → Out := (bSeq (sRet (e2 mulP (eFld "n" (eV 0)) (eMeth "weight" (cs6 M) V (eFld "one" (eV 0)) aNil))) bNil)
noncomputable def G_weight (M : Str → Addr) : Nat → Addr → List PV → R PV
  | 0 => pick (tab6 M (fun _ => .stuck) (fun _ => .stuck) (fun _ => .stuck) (fun _ => .stuck) (fun _ => .stuck) (fun _ => .stuck))
  | n + 1 => pick (tab6 M (runF 1 (D_Term_weight M)) (runF 1 (D_Pair_weight M (G_weight M n))) (runF 1 (D_Pair_weight M (G_weight M n))) (runF 1 (D_Pair_weight M (G_weight M n))) (runF 1 (D_Pair_weight M (G_weight M n))) (runF 1 (D_Power_weight M (G_weight M n))))
noncomputable def D_whole_of : Rho → Out := (bSeq (sIf (tB1 (e2 gtP (eD lenP (aCons (eM lstrP (eVo 0) (eC (.str "-"))) aNil)) (eC (.int 20)))) (bSeq (sRaise "NoText") bNil) bNil) (bSeq (sRet (eD F_number_of (aCons (eV 0) aNil))) bNil))
noncomputable def F_whole_of : List PV → R PV := runF 1 D_whole_of
noncomputable def D_part_of (M : Str → Addr) : Rho → Out := (bSeq (sTo (gT (gsCons (gN 1) (gsCons (gN 2) (gsCons (gN 3) gsNil)))) (eM partP (eVo 0) (eC (.str "/")))) (bSeq (sIf (tB1 (e2 eqP (eVo 2) (eC (.str "")))) (bSeq (sRet (eMk (M "Part") ["part"] (aCons (eD (fun ps => F_fraction (ps ++ [.int 1])) (aCons (eD F_whole_of (aCons (eV 1) aNil)) aNil)) aNil))) bNil) bNil) (bSeq (sIf (tB1 (e2 ltP (eD F_whole_of (aCons (eV 3) aNil)) (eC (.int 1)))) (bSeq (sRaise "NoText") bNil) bNil) (bSeq (sRet (eMk (M "Part") ["part"] (aCons (eD F_fraction (aCons (eD F_whole_of (aCons (eV 1) aNil)) (aCons (eD F_whole_of (aCons (eV 3) aNil)) aNil))) aNil))) bNil))))
noncomputable def F_part_of (M : Str → Addr) : List PV → R PV := runF 4 (D_part_of M)
noncomputable def D_word_at : Rho → Out := (bSeq (sSet 2 (eV 1)) (bSeq (sWh (tAn (tB1 (e2 ltP (eVo 2) (eD lenP (aCons (eVo 0) aNil)))) (tB1 (e2 notInS (e2 ixP (eVo 0) (eVo 2)) (eC (.str " )"))))) (bSeq (sAug 2 (intP (fun _ _ => true) fun a b => .int (a + b)) (eC (.int 1))) bNil)) (bSeq (sRet (eSl slP (eVo 0) (oSome (eV 1)) (oSome (eV 2)))) bNil)))
noncomputable def F_word_at : List PV → R PV := runF 3 D_word_at
noncomputable def D_of_two (M : Str → Addr) : Rho → Out := (bSeq (sIf (tB1 (e2 eqP (eVo 0) (eC (.str " + ")))) (bSeq (sRet (eMk (M "Sum") ["one", "other"] (aCons (eV 1) (aCons (eV 2) aNil)))) bNil) bNil) (bSeq (sIf (tB1 (e2 eqP (eVo 0) (eC (.str " - ")))) (bSeq (sRet (eMk (M "Difference") ["one", "other"] (aCons (eV 1) (aCons (eV 2) aNil)))) bNil) bNil) (bSeq (sIf (tB1 (e2 eqP (eVo 0) (eC (.str " * ")))) (bSeq (sRet (eMk (M "Product") ["one", "other"] (aCons (eV 1) (aCons (eV 2) aNil)))) bNil) bNil) (bSeq (sRet (eMk (M "Quotient") ["one", "other"] (aCons (eV 1) (aCons (eV 2) aNil)))) bNil))))
noncomputable def F_of_two (M : Str → Addr) : List PV → R PV := runF 3 (D_of_two M)
noncomputable def D_read_deed (M : Str → Addr) (G : List PV → R PV) : Rho → Out := (bSeq (sTo (gT (gsCons (gN 3) (gsCons (gN 1) gsNil))) (eD G (aCons (eV 0) (aCons (eV 1) (aCons (eV 2) aNil))))) (bSeq (sSet 4 (eSl slP (eVo 0) (oSome (eV 1)) (oSome (e2 addP (eVo 1) (eC (.int 3)))))) (bSeq (sAug 1 (intP (fun _ _ => true) fun a b => .int (a + b)) (eC (.int 3))) (bSeq (sIf (tB1 (e2 eqP (eVo 4) (eC (.str " ^ ")))) (bSeq (sSet 5 (eSl slP (eVo 0) (oSome (eV 1)) (oSome (e2 addP (eVo 1) (eC (.int 1)))))) (bSeq (sIf (tOr' (tB1 (e2 eqP (eVo 5) (eC (.str "")))) (tB1 (e2 notInS (eVo 5) (eC (.str "123456789"))))) (bSeq (sRaise "NoText") bNil) bNil) (bSeq (sSet 6 (eMk (M "Power") ["one", "n"] (aCons (eV 3) (aCons (eD intS (aCons (eVo 5) aNil)) aNil)))) (bSeq (sAug 1 (intP (fun _ _ => true) fun a b => .int (a + b)) (eC (.int 1))) bNil)))) (bSeq (sIf (tB1 (e2 inP (eVo 4) (eD tupP (aCons (eC (.str " + ")) (aCons (eC (.str " - ")) (aCons (eC (.str " * ")) (aCons (eC (.str " : ")) aNil))))))) (bSeq (sTo (gT (gsCons (gN 7) (gsCons (gN 1) gsNil))) (eD G (aCons (eV 0) (aCons (eV 1) (aCons (eV 2) aNil))))) (bSeq (sSet 6 (eD (F_of_two M) (aCons (eV 4) (aCons (eV 3) (aCons (eV 7) aNil))))) bNil)) (bSeq (sRaise "NoText") bNil)) bNil)) (bSeq (sIf (tB1 (e2 neP (eSl slP (eVo 0) (oSome (eV 1)) (oSome (e2 addP (eVo 1) (eC (.int 1))))) (eC (.str ")")))) (bSeq (sRaise "NoText") bNil) bNil) (bSeq (sRet (eD tupP (aCons (eV 6) (aCons (e2 addP (eVo 1) (eC (.int 1))) aNil)))) bNil))))))
noncomputable def F_read_deed (M : Str → Addr) (G : List PV → R PV) : List PV → R PV := runF 8 (D_read_deed M G)
noncomputable def D_read_at (M : Str → Addr) (G : List PV → R PV) : Rho → Out := (bSeq (sIf (tB1 (e2 eqP (eSl slP (eVo 0) (oSome (eV 1)) (oSome (e2 addP (eVo 1) (eC (.int 1))))) (eC (.str "(")))) (bSeq (sIf (tB1 (e2 eqP (eVo 2) (eC (.int 10)))) (bSeq (sRaise "NoText") bNil) bNil) (bSeq (sRet (eD (F_read_deed M G) (aCons (eV 0) (aCons (e2 addP (eVo 1) (eC (.int 1))) (aCons (e2 addP (eVo 2) (eC (.int 1))) aNil))))) bNil)) bNil) (bSeq (sSet 3 (eD F_word_at (aCons (eV 0) (aCons (eV 1) aNil)))) (bSeq (sRet (eD tupP (aCons (eD (F_part_of M) (aCons (eV 3) aNil)) (aCons (e2 addP (eVo 1) (eD lenP (aCons (eVo 3) aNil))) aNil)))) bNil)))
noncomputable def F_read_at (M : Str → Addr) : Nat → List PV → R PV
  | 0 => fun _ => .stuck
  | n + 1 => runF 4 (D_read_at M (F_read_at M n))
noncomputable def D_read_term (M : Str → Addr) : Rho → Out := (bSeq (sIf (tNt (tB1 (e1 (isiP "str") (eVo 0)))) (bSeq (sRaise "NoText") bNil) bNil) (bSeq (sTo (gT (gsCons (gN 1) (gsCons (gN 2) gsNil))) (eD (F_read_at M 13) (aCons (eV 0) (aCons (eC (.int 0)) (aCons (eC (.int 0)) aNil))))) (bSeq (sIf (tOr' (tB1 (e2 neP (eVo 2) (eD lenP (aCons (eVo 0) aNil)))) (tB1 (e2 gtP (eMeth "weight" (cs6 M) (G_weight M 14) (eV 1) aNil) (eC (.int 50))))) (bSeq (sRaise "NoText") bNil) bNil) (bSeq (sRet (eV 1)) bNil))))
noncomputable def F_read_term (M : Str → Addr) : List PV → R PV := runF 3 (D_read_term M)
end PM
set_option Elab.async false
set_option linter.all false
set_option maxRecDepth 100000
set_option autoImplicit false
set_option exponentiation.threshold 20000
namespace PM
open PySem PySem.Spec L2 PL
open PyProof.Rows hiding St
/-- a / b = (x / y) p ^ e, y without p -/
def Fm (p a b e x y : Int) : Prop := y % p ≠ 0 ∧ a * plB p e y = plT p e x * b
theorem pw0 {p : Int} (hp : 2 ≤ p) (k : Nat) : p ^ k ≠ 0 := Int.pow_ne_zero (by omega)
theorem y0 {p y : Int} (h : y % p ≠ 0) : y ≠ 0 := fun z => h (by rw [z]; exact Int.zero_emod p)
theorem plB0 {p e y : Int} (hp : 2 ≤ p) (h : y ≠ 0) : plB p e y ≠ 0 := Int.mul_ne_zero h (pw0 hp _)
theorem shift_cross (p x y e m : Int) (h : m ≤ e) : plT p m (x * p ^ (e - m).toNat) * plB p e y = plT p e x * plB p m y := by
  unfold plT plB
  have k : p ^ (e - m).toNat * p ^ m.toNat * p ^ (-e).toNat = p ^ e.toNat * p ^ (-m).toNat := by
    rw [← Int.pow_add, ← Int.pow_add, ← Int.pow_add]; congr 1; omega
  grind
theorem Fm.low {p a b e x y m : Int} (hp : 2 ≤ p) (h : Fm p a b e x y) (hm : m ≤ e) : Fm p a b m (x * p ^ (e - m).toNat) y := by
  refine ⟨h.1, ?_⟩
  have c := shift_cross p x y e m hm
  have e1 := h.2
  have n : plB p e y ≠ 0 := plB0 hp (y0 h.1)
  apply Int.eq_of_mul_eq_mul_right n
  grind
theorem Fm.add {p a b c d m x1 y1 x2 y2 : Int} (hp : p ∈ primesL) (h1 : Fm p a b m x1 y1) (h2 : Fm p c d m x2 y2) : Fm p (a * d + c * b) (b * d) m (x1 * y2 + x2 * y1) (y1 * y2) := by
  refine ⟨prime_mulI hp h1.1 h2.1, ?_⟩
  have e1 := h1.2
  have e2 := h2.2
  unfold plT plB at *
  grind
theorem Fm.sub {p a b c d m x1 y1 x2 y2 : Int} (hp : p ∈ primesL) (h1 : Fm p a b m x1 y1) (h2 : Fm p c d m x2 y2) : Fm p (a * d - c * b) (b * d) m (x1 * y2 - x2 * y1) (y1 * y2) := by
  refine ⟨prime_mulI hp h1.1 h2.1, ?_⟩
  have e1 := h1.2
  have e2 := h2.2
  unfold plT plB at *
  grind
theorem Fm.mul {p a b c d e f x1 y1 x2 y2 : Int} (hp : p ∈ primesL) (h1 : Fm p a b e x1 y1) (h2 : Fm p c d f x2 y2) : Fm p (a * c) (b * d) (e + f) (x1 * x2) (y1 * y2) := by
  have hp2 := (primesL_le p hp).1
  refine ⟨prime_mulI hp h1.1 h2.1, ?_⟩
  have e1 := h1.2
  have e2 := h2.2
  have n : plB p e y1 * plB p f y2 ≠ 0 := Int.mul_ne_zero (plB0 hp2 (y0 h1.1)) (plB0 hp2 (y0 h2.1))
  apply Int.eq_of_mul_eq_mul_right n
  have k : p ^ (-(e + f)).toNat * (p ^ e.toNat * p ^ f.toNat) = p ^ (e + f).toNat * (p ^ (-e).toNat * p ^ (-f).toNat) := by
    rw [← Int.pow_add, ← Int.pow_add, ← Int.pow_add, ← Int.pow_add]; congr 1; omega
  have c1 : a * c * plB p (e + f) (y1 * y2) * (plB p e y1 * plB p f y2) = (a * plB p e y1) * (c * plB p f y2) * plB p (e + f) (y1 * y2) := by grind
  rw [c1, e1, e2]
  unfold plT plB
  generalize p ^ (-(e + f)).toNat = A at *
  generalize p ^ (e + f).toNat = B at *
  generalize p ^ e.toNat = C at *
  generalize p ^ f.toNat = D at *
  generalize p ^ (-e).toNat = E at *
  generalize p ^ (-f).toNat = F at *
  have : x1 * C * b * (x2 * D * d) * (y1 * y2 * A) = x1 * x2 * b * d * y1 * y2 * (A * (C * D)) := by grind
  rw [this, k]
  grind
theorem Fm.pow {p a b e x y : Int} (hp : p ∈ primesL) (h : Fm p a b e x y) (N : Nat) : Fm p (a ^ N) (b ^ N) (N * e) (x ^ N) (y ^ N) := by
  refine ⟨pow_ne hp h.1 N, ?_⟩
  have e1 := congrArg (fun z => z ^ N) h.2
  unfold plT plB at *
  simp only [Int.mul_pow, ← Int.pow_mul] at e1
  have t : ∀ z : Int, ((N : Int) * z).toNat = z.toNat * N := fun z => by
    by_cases hz : 0 ≤ z
    · have : (N : Int) * z = ((z.toNat * N : Nat) : Int) := by rw [Int.natCast_mul, Int.toNat_of_nonneg hz, Int.mul_comm]
      rw [this, Int.toNat_natCast]
    · have : (N : Int) * z ≤ 0 := Int.mul_nonpos_of_nonneg_of_nonpos (by omega) (by omega)
      rw [Int.toNat_of_nonpos this, Int.toNat_of_nonpos (by omega), Nat.zero_mul]
  rw [t, show -((N : Int) * e) = N * (-e) by grind, t]
  grind
/-- the fraction a / b begins with the left number (e, ds) -/
def Bg (p a b e : Int) (ds : List Int) : Prop := ∃ x y, Fm p a b e x y ∧ Mo (p ^ ds.length) x (U p ds * y)
end PM
set_option Elab.async false
set_option linter.all false
set_option maxRecDepth 100000
set_option autoImplicit false
set_option exponentiation.threshold 20000
namespace PM
open PySem PySem.Spec L2 PL
open PyProof.Rows hiding St
theorem Bg.low {p a b e m : Int} {ds : List Int} (hp : 2 ≤ p) (h : Bg p a b e ds) (hm : m ≤ e) : ∃ x y, Fm p a b m x y ∧ Mo (p ^ (e + ds.length - m).toNat) x (V p m e ds * y) := by
  obtain ⟨x, y, f, mo⟩ := h
  refine ⟨_, y, f.low hp hm, ?_⟩
  have s := mo.scale (p ^ (e - m).toNat)
  rw [← Int.pow_add] at s
  unfold V
  rw [show (e + (ds.length : Int) - m).toNat = ds.length + (e - m).toNat by omega]
  exact s.trans (Mo.of_eq (by grind))
theorem Fm.same {p a b m x1 y1 x2 y2 : Int} (hp : 2 ≤ p) (hb : b ≠ 0) (f1 : Fm p a b m x1 y1) (f2 : Fm p a b m x2 y2) : x1 * y2 = x2 * y1 := by
  have e1 := f1.2
  have e2 := f2.2
  unfold plT plB at *
  have n : p ^ m.toNat * b * p ^ (-m).toNat ≠ 0 := Int.mul_ne_zero (Int.mul_ne_zero (pw0 hp _) hb) (pw0 hp _)
  apply Int.eq_of_mul_eq_mul_right n
  generalize p ^ m.toNat = A at *
  generalize p ^ (-m).toNat = B at *
  have l : x1 * y2 * (A * b * B) = (x1 * A * b) * (y2 * B) := by grind
  have r : x2 * y1 * (A * b * B) = (x2 * A * b) * (y1 * B) := by grind
  rw [l, r, ← e1, ← e2]
  grind
end PM
set_option Elab.async false
set_option linter.all false
set_option maxRecDepth 100000
set_option autoImplicit false
set_option exponentiation.threshold 20000
namespace PM
open PySem PySem.Spec L2 PL
open PyProof.Rows hiding St
inductive T where
  | part (a b : Int)
  | two (k : Nat) (x y : T)
  | pow (x : T) (n : Nat)
def nmT : Nat → Str
  | 0 => "Sum" | 1 => "Difference" | 2 => "Product" | _ => "Quotient"
def clsT : T → Str
  | .part _ _ => "Part"
  | .two k _ _ => nmT k
  | .pow _ _ => "Power"
def enc (M : Str → Addr) : T → PV
  | .part a b => .obj (M "Part") ["part"] [fracV a b]
  | .two k x y => .obj (M (nmT k)) ["one", "other"] [enc M x, enc M y]
  | .pow x n => .obj (M "Power") ["one", "n"] [enc M x, .int n]
def depT : T → Nat
  | .part _ _ => 0
  | .two _ x y => 1 + max (depT x) (depT y)
  | .pow x _ => 1 + depT x
def Wf (S : Nat) : T → Prop
  | .part a b => 1 ≤ b ∧ Int.gcd a b = 1 ∧ a.natAbs < 2 ^ S ∧ b.natAbs < 2 ^ S
  | .two _ x y => Wf S x ∧ Wf S y
  | .pow x n => Wf S x ∧ 1 ≤ n ∧ n ≤ 9
def opT : Nat → Int × Int → Int × Int → Option (Int × Int)
  | 0, u, v => some (ftop (u.1 * v.2 + v.1 * u.2) (u.2 * v.2), fbot (u.1 * v.2 + v.1 * u.2) (u.2 * v.2))
  | 1, u, v => some (ftop (u.1 * v.2 - v.1 * u.2) (u.2 * v.2), fbot (u.1 * v.2 - v.1 * u.2) (u.2 * v.2))
  | 2, u, v => some (ftop (u.1 * v.1) (u.2 * v.2), fbot (u.1 * v.1) (u.2 * v.2))
  | _, u, v => if v.1 = 0 then none else some (ftop (u.1 * v.2) (u.2 * v.1), fbot (u.1 * v.2) (u.2 * v.1))
def mulT (u v : Int × Int) : Int × Int := (ftop (u.1 * v.1) (u.2 * v.2), fbot (u.1 * v.1) (u.2 * v.2))
/-- so often as a factor, one more -/
def powT (u : Int × Int) : Nat → Int × Int
  | 0 => u
  | n + 1 => mulT (powT u n) u
def valT : T → Option (Int × Int)
  | .part a b => some (a, b)
  | .two k x y => (valT x).bind fun u => (valT y).bind fun v => opT k u v
  | .pow x n => (valT x).map fun u => powT u (n - 1)
/-- a fraction in lowest terms, of so many bits -/
structure Low (u : Int × Int) (m : Nat) : Prop where
  pos : 1 ≤ u.2
  gcd : Int.gcd u.1 u.2 = 1
  top : u.1.natAbs < 2 ^ m
  bot : u.2.natAbs < 2 ^ m
theorem Low.le {u : Int × Int} {m n : Nat} (h : Low u m) (hm : m ≤ n) : Low u n := ⟨h.pos, h.gcd, sz_le h.top hm, sz_le h.bot hm⟩
theorem pick_at {L : List (Addr × (List PV → R PV))} {t : Addr × (List PV → R PV)} (hn : (L.map (·.1)).Nodup) (ht : t ∈ L) : pick L t.1 = t.2 := by
  unfold pick; rw [lookup_nodup hn t ht]
section
variable {M : Str → Addr} {a b c d e f : List PV → R PV}
theorem pick6 (h : (cs6 M).Nodup) : pick (tab6 M a b c d e f) (M "Part") = a ∧ pick (tab6 M a b c d e f) (M "Sum") = b ∧ pick (tab6 M a b c d e f) (M "Difference") = c ∧ pick (tab6 M a b c d e f) (M "Product") = d ∧ pick (tab6 M a b c d e f) (M "Quotient") = e ∧ pick (tab6 M a b c d e f) (M "Power") = f := by
  have h' : ((tab6 M a b c d e f).map (·.1)).Nodup := h
  exact ⟨pick_at (t := (M "Part", a)) h' (by simp [tab6]), pick_at (t := (M "Sum", b)) h' (by simp [tab6]), pick_at (t := (M "Difference", c)) h' (by simp [tab6]), pick_at (t := (M "Product", d)) h' (by simp [tab6]), pick_at (t := (M "Quotient", e)) h' (by simp [tab6]), pick_at (t := (M "Power", f)) h' (by simp [tab6])⟩
theorem pick4 (h : (cs6 M).Nodup) : pick (tab4 M b c d e) (M "Sum") = b ∧ pick (tab4 M b c d e) (M "Difference") = c ∧ pick (tab4 M b c d e) (M "Product") = d ∧ pick (tab4 M b c d e) (M "Quotient") = e := by
  have h' : ((tab4 M b c d e).map (·.1)).Nodup := cs4_nodup h
  exact ⟨pick_at (t := (M "Sum", b)) h' (by simp [tab4]), pick_at (t := (M "Difference", c)) h' (by simp [tab4]), pick_at (t := (M "Product", d)) h' (by simp [tab4]), pick_at (t := (M "Quotient", e)) h' (by simp [tab4])⟩
end
theorem pick_two {M : Str → Addr} (h : (cs6 M).Nodup) (a b f : List PV → R PV) (k : Nat) : pick (tab6 M a b b b b f) (M (nmT k)) = b := by
  obtain ⟨_, q1, q2, q3, q4, _⟩ := pick6 (M := M) (a := a) (b := b) (c := b) (d := b) (e := b) (f := f) h
  match k with
  | 0 => exact q1
  | 1 => exact q2
  | 2 => exact q3
  | k + 3 => exact q4
def pk4 (b c d e : List PV → R PV) : Nat → List PV → R PV
  | 0 => b | 1 => c | 2 => d | _ => e
theorem pick_four {M : Str → Addr} (h : (cs6 M).Nodup) (b c d e : List PV → R PV) (k : Nat) : pick (tab4 M b c d e) (M (nmT k)) = pk4 b c d e k := by
  obtain ⟨q1, q2, q3, q4⟩ := pick4 (M := M) (b := b) (c := c) (d := d) (e := e) h
  match k with
  | 0 => exact q1
  | 1 => exact q2
  | 2 => exact q3
  | k + 3 => exact q4
theorem nm4 (M : Str → Addr) (k : Nat) : M (nmT k) ∈ cs4 M := by
  match k with
  | 0 => simp [cs4, nmT]
  | 1 => simp [cs4, nmT]
  | 2 => simp [cs4, nmT]
  | k + 3 => simp [cs4, nmT]
theorem cls6 (M : Str → Addr) (t : T) : M (clsT t) ∈ cs6 M := by
  cases t with
  | part a b => simp [cs6, clsT]
  | pow x n => simp [cs6, clsT]
  | two k x y =>
    show M (nmT k) ∈ cs6 M
    match k with
    | 0 => simp [cs6, nmT]
    | 1 => simp [cs6, nmT]
    | 2 => simp [cs6, nmT]
    | k + 3 => simp [cs6, nmT]
/-- the names of a term's attributes, and their values -/
def fldN : T → List Str
  | .part _ _ => ["part"]
  | .two _ _ _ => ["one", "other"]
  | .pow _ _ => ["one", "n"]
def fldV (M : Str → Addr) : T → List PV
  | .part a b => [fracV a b]
  | .two _ x y => [enc M x, enc M y]
  | .pow x n => [enc M x, .int n]
theorem enc_eq (M : Str → Addr) (t : T) : enc M t = .obj (M (clsT t)) (fldN t) (fldV M t) := by cases t <;> rfl
theorem eMeth_ok {m : Str} {Cs : List Addr} {G : Addr → List PV → R PV} {fo : Rho → R PV} {fA : Rho → R (List PV)} {ρ : Rho} {C : Addr} {ns : List Str} {fs ps : List PV} (h1 : fo ρ = .ok (.obj C ns fs)) (h2 : C ∈ Cs) (h3 : m ∉ ns) (h4 : fA ρ = .ok ps) : eMeth m Cs G fo fA ρ = G C (.obj C ns fs :: ps) := by
  unfold eMeth
  rw [h1, R.bind_ok]
  dsimp only
  rw [if_pos ⟨h2, h3⟩, h4, R.bind_ok]
theorem eFld_ok {nm : Str} {fo : Rho → R PV} {ρ : Rho} {C : Addr} {ns : List Str} {fs : List PV} {q : PV} (h1 : fo ρ = .ok (.obj C ns fs)) (h2 : (ns.zip fs).lookup nm = some q) : eFld nm fo ρ = .ok q := by
  unfold eFld
  rw [h1, R.bind_ok]
  dsimp only
  rw [h2]
theorem no_meth {m : Str} (hm : m = "value" ∨ m = "seen_by" ∨ m = "shown" ∨ m = "weight" ∨ m = "sign" ∨ m = "of_fractions" ∨ m = "of_lefts") (t : T) : m ∉ fldN t := by
  cases t with
  | part a b =>
    show m ∉ (["part"] : List Str)
    rcases hm with h | h | h | h | h | h | h <;> subst h <;> decide +kernel
  | two k x y =>
    show m ∉ (["one", "other"] : List Str)
    rcases hm with h | h | h | h | h | h | h <;> subst h <;> decide +kernel
  | pow x n =>
    show m ∉ (["one", "n"] : List Str)
    rcases hm with h | h | h | h | h | h | h <;> subst h <;> decide +kernel
end PM
set_option Elab.async false
set_option linter.all false
set_option maxRecDepth 100000
set_option autoImplicit false
set_option exponentiation.threshold 20000
namespace PM
open PySem PySem.Spec L2 PL
open PyProof.Rows hiding St
end PM
set_option Elab.async false
set_option linter.all false
set_option maxRecDepth 100000
set_option autoImplicit false
set_option exponentiation.threshold 20000
namespace PM
open PySem PySem.Spec L2 PL
open PyProof.Rows hiding St
end PM
set_option Elab.async false
set_option linter.all false
set_option maxRecDepth 100000
set_option autoImplicit false
set_option exponentiation.threshold 20000
namespace PM
open PySem PySem.Spec L2 PL
open PyProof.Rows hiding St
end PM
set_option Elab.async false
set_option linter.all false
set_option maxRecDepth 100000
set_option autoImplicit false
set_option exponentiation.threshold 20000
namespace PM
open PySem PySem.Spec L2 PL
open PyProof.Rows hiding St
end PM
set_option Elab.async false
set_option linter.all false
set_option maxRecDepth 100000
set_option autoImplicit false
set_option exponentiation.threshold 20000
namespace PM
open PySem PySem.Spec L2 PL TL
open PyProof.Rows hiding St
inductive RT where
  | part (bare : Bool) (a b : Int)
  | two (k : Nat) (x y : RT)
  | pow (x : RT) (n : Nat)
def sg : Nat → Nat
  | 0 => 43 | 1 => 45 | 2 => 42 | _ => 58
def txR : RT → List Nat
  | .part true a _ => numT a
  | .part false a b => numT a ++ 47 :: numT b
  | .two k x y => 40 :: (txR x ++ (32 :: sg k :: 32 :: (txR y ++ [41])))
  | .pow x n => 40 :: (txR x ++ (32 :: 94 :: 32 :: (48 + n) :: [41]))
def enR : RT → T
  | .part true a _ => .part (ftop a 1) (fbot a 1)
  | .part false a b => .part (ftop a b) (fbot a b)
  | .two k x y => .two k (enR x) (enR y)
  | .pow x n => .pow (enR x) n
def OkR : RT → Prop
  | .part _ a b => a.natAbs < 10 ^ 20 ∧ 1 ≤ b ∧ b.natAbs < 10 ^ 20
  | .two _ x y => OkR x ∧ OkR y
  | .pow x n => OkR x ∧ 1 ≤ n ∧ n ≤ 9
def depR : RT → Nat
  | .part _ _ _ => 0
  | .two _ x y => 1 + max (depR x) (depR y)
  | .pow x _ => 1 + depR x
def wtT : T → Nat
  | .part _ _ => 1
  | .two _ x y => wtT x + wtT y
  | .pow x n => n * wtT x
theorem strip_len2 (i : Int) (h : i.natAbs < 10 ^ 20) : ∃ n : Nat, (Txt.lstripChars (tx (numT i)) (tx [45])).length = n ∧ n ≤ 20 := by
  refine ⟨_, rfl, ?_⟩
  unfold Txt.lstripChars
  rw [PyProof.Rows.stripBy_eq]
  have hi : ∀ lo, stripHi (tx [45]).cps.contains false (tx (numT i)) lo = (tx (numT i)).length := fun _ => rfl
  rw [hi, StrLaws.sub_len _ _ _ (Nat.le_refl _), tx_len]
  have lo : stripLo (tx [45]).cps.contains true (tx (numT i)) = ((numT i).takeWhile (tx [45]).cps.contains).length := rfl
  rw [lo]
  have nl := numL_len (n := i.natAbs) (k := 20) (by omega) h
  unfold numT
  split
  · rw [List.takeWhile_cons, if_pos (by decide +kernel), List.length_cons, List.length_cons]
    omega
  · omega
theorem f_whole_num (i : Int) (h : i.natAbs < 10 ^ 20) : F_whole_of [.str (tx (numT i))] = .ok (.int i) := by
  refine (runF_eq (n := 1) (u := D_whole_of)).trans ?_
  show (D_whole_of [.val (.str (tx (numT i)))]).res = _
  obtain ⟨n, hn, hn2⟩ := strip_len2 i h
  have l := numT_len i (k := 20) (by omega) h
  have ls : lstrP (.str (tx (numT i))) (.str (tx [45])) = .ok (.str (Txt.lstripChars (tx (numT i)) (tx [45]))) := by
    unfold lstrP
    dsimp only
    rw [if_pos (by rw [tx_len]; exact size_ok (by omega))]
  have ln : lenP [.str (Txt.lstripChars (tx (numT i)) (tx [45]))] = .ok (.int n) := by
    rw [← tx_tl (Txt.lstripChars (tx (numT i)) (tx [45]))]
    rw [lenP_tx (by rw [← len_tl, hn]; omega), ← len_tl, hn]
  have nb := f_number_num i (Nat.lt_of_lt_of_le h (Nat.pow_le_pow_right (by omega) (by omega)))
  have gt : ¬ ((20 : Int) < (n : Int)) := by omega
  have em : eM lstrP (eVo 0) (eC (.str "-")) [.val (.str (tx (numT i)))] = .ok (.str (Txt.lstripChars (tx (numT i)) (tx [45]))) := by
    unfold eM
    rw [eVo0, bind1]
    dsimp only
    rw [eC_eq, bind1, s_dash, ls]
  unfold D_whole_of
  refine skp (by simp only [tB1_eq, e2_eq, eD_eq, aCons_eq, aNil_eq, eC_eq, bind1, em, ln, gtP_ii, decide_eq_false gt, asB_eq]) ?_
  simp only [bSeq_eq, sRet_eq, eD_eq, aCons_eq, aNil_eq, eV0, bind1, nb, st_ok, then_ret, res_ret]
theorem s_stroke : Str.ofString "/" = tx [47] := by decide +kernel
theorem f_part_of {M : Str → Addr} (bare : Bool) (a b : Int) (h : OkR (.part bare a b)) : F_part_of M [.str (tx (txR (.part bare a b)))] = .ok (enc M (enR (.part bare a b))) := by
  obtain ⟨ha, hb, hbz⟩ := h
  have la := numT_len a (k := 20) (by omega) ha
  have lb := numT_len b (k := 20) (by omega) hbz
  have fa := f_whole_num a ha
  have fb := f_whole_num b hbz
  have bz : b.natAbs < 2 ^ 8000 := sz_le (show b.natAbs < 2 ^ 67 by omega) (by omega)
  refine (runF_eq (n := 4) (u := D_part_of M)).trans ?_
  cases bare with
  | true =>
    show (D_part_of M [.val (.str (tx (numT a))), .un, .un, .un]).res = .ok (.obj (M "Part") ["part"] [fracV (ftop a 1) (fbot a 1)])
    have pp : partP (.str (tx (numT a))) (.str "/") = .ok (.tup [.str (tx (numT a)), .str (tx []), .str (tx [])]) := by
      have e := SX.partition_none (a := numT a) (b := [47]) (by simp) (SX.par_head_none (numT_free a (.inr (.inr (.inl rfl)))))
      rw [s_stroke]
      unfold partP
      dsimp only
      rw [if_pos ⟨by rfl, by rw [tx_len]; exact size_ok (by omega)⟩]
      show R.ok (PV.tup [.str (Txt.partition (SX.S (numT a)) (SX.S [47])).1, .str (Txt.partition (SX.S (numT a)) (SX.S [47])).2.1, .str (Txt.partition (SX.S (numT a)) (SX.S [47])).2.2]) = _
      rw [e]; rfl
    have em : eM partP (eVo 0) (eC (.str "/")) [.val (.str (tx (numT a))), .un, .un, .un] = .ok (.tup [.str (tx (numT a)), .str (tx []), .str (tx [])]) := by
      unfold eM
      rw [eVo0, bind1]
      dsimp only
      rw [eC_eq, bind1, pp]
    have q := eqP_tx Asc.nil Asc.nil
    rw [← s_empty] at q
    have ff := f_fraction a 1 (by omega) (by decide)
    unfold D_part_of
    refine stpN (ρ' := [.val (.str (tx (numT a))), .val (.str (tx (numT a))), .val (.str (tx [])), .val (.str (tx []))]) (by simp only [sTo_eq, em, st_ok, gT_eq, gsCons_eq, gsNil_eq, gN_eq, Option.bind_some, List.set_cons_succ, List.set_cons_zero]) ?_
    rw [← s_empty]
    refine ifT (by simp only [tB1_eq, e2_eq, eVos, eVo0, eC_eq, bind1, q, asB_eq]; rfl) ?_
    have mk : eMk (M "Part") ["part"] (aCons (eD (fun ps => F_fraction (ps ++ [.int 1])) (aCons (eD F_whole_of (aCons (eV 1) aNil)) aNil)) aNil) [.val (.str (tx (numT a))), .val (.str (tx (numT a))), .val (.str ""), .val (.str "")] = .ok (.obj (M "Part") ["part"] [fracV (ftop a 1) (fbot a 1)]) := by
      unfold eMk
      simp only [aCons_eq, aNil_eq, eD_eq, eVs, eV0, bind1, fa, List.cons_append, List.nil_append, ff]
      rfl
    simp only [bSeq_eq, sRet_eq, mk, st_ok, then_ret, res_ret]
  | false =>
    show (D_part_of M [.val (.str (tx (numT a ++ 47 :: numT b))), .un, .un, .un]).res = .ok (.obj (M "Part") ["part"] [fracV (ftop a b) (fbot a b)])
    have pp : partP (.str (tx (numT a ++ 47 :: numT b))) (.str "/") = .ok (.tup [.str (tx (numT a)), .str (tx [47]), .str (tx (numT b))]) := by
      have e := SX.partition_some (a := numT a ++ ([47] ++ numT b)) (b := [47]) (by simp) (SX.par_head (c := 47) (sep := []) (numT b) (numT_free a (.inr (.inr (.inl rfl)))))
      rw [s_stroke]
      unfold partP
      dsimp only
      rw [if_pos ⟨by rfl, by rw [tx_len]; exact size_ok (by rw [List.length_append, List.length_cons]; omega)⟩]
      show R.ok (PV.tup [.str (Txt.partition (SX.S (numT a ++ ([47] ++ numT b))) (SX.S [47])).1, .str (Txt.partition (SX.S (numT a ++ ([47] ++ numT b))) (SX.S [47])).2.1, .str (Txt.partition (SX.S (numT a ++ ([47] ++ numT b))) (SX.S [47])).2.2]) = _
      rw [e]; rfl
    have em : eM partP (eVo 0) (eC (.str "/")) [.val (.str (tx (numT a ++ 47 :: numT b))), .un, .un, .un] = .ok (.tup [.str (tx (numT a)), .str (tx [47]), .str (tx (numT b))]) := by
      unfold eM
      rw [eVo0, bind1]
      dsimp only
      rw [eC_eq, bind1, pp]
    have q := eqP_tx (a := [47]) (b := []) (fun c hc => by rw [List.mem_singleton.mp hc]; decide) Asc.nil
    rw [← s_empty] at q
    have ff := f_fraction a b (by omega) bz
    have lt : ¬ (b < 1) := by omega
    obtain ⟨Wd, hW⟩ : ∃ Wd, Wd = tx (numT a ++ 47 :: numT b) := ⟨_, rfl⟩
    rw [← hW] at em ⊢
    unfold D_part_of
    refine stpN (ρ' := [.val (.str Wd), .val (.str (tx (numT a))), .val (.str (tx [47])), .val (.str (tx (numT b)))]) (by simp only [sTo_eq, em, st_ok, gT_eq, gsCons_eq, gsNil_eq, gN_eq, Option.bind_some, List.set_cons_succ, List.set_cons_zero]) ?_
    refine skp (by simp only [tB1_eq, e2_eq, eVos, eVo0, eC_eq, bind1, q, asB_eq]; rfl) ?_
    refine skp (by simp only [tB1_eq, e2_eq, eD_eq, aCons_eq, aNil_eq, eVs, eV0, eC_eq, bind1, fb, ltP_ii, decide_eq_false lt, asB_eq]) ?_
    have mk : eMk (M "Part") ["part"] (aCons (eD F_fraction (aCons (eD F_whole_of (aCons (eV 1) aNil)) (aCons (eD F_whole_of (aCons (eV 3) aNil)) aNil))) aNil) [.val (.str Wd), .val (.str (tx (numT a))), .val (.str (tx [47])), .val (.str (tx (numT b)))] = .ok (.obj (M "Part") ["part"] [fracV (ftop a b) (fbot a b)]) := by
      unfold eMk
      simp only [aCons_eq, aNil_eq, eD_eq, eVs, eV0, bind1, fa, fb, ff]
      rfl
    simp only [bSeq_eq, sRet_eq, mk, st_ok, then_ret, res_ret]
end PM
set_option Elab.async false
set_option linter.all false
set_option maxRecDepth 100000
set_option autoImplicit false
set_option exponentiation.threshold 20000
namespace PM
open PySem PySem.Spec L2 PL TL
open PyProof.Rows hiding St
theorem s_ends : Str.ofString " )" = tx [32, 41] := by decide +kernel
theorem s_open : Str.ofString "(" = tx [40] := by decide +kernel
theorem s_close : Str.ofString ")" = tx [41] := by decide +kernel
theorem s_hat : Str.ofString " ^ " = tx [32, 94, 32] := by decide +kernel
theorem s_plus : Str.ofString " + " = tx [32, 43, 32] := by decide +kernel
theorem s_minus : Str.ofString " - " = tx [32, 45, 32] := by decide +kernel
theorem s_star : Str.ofString " * " = tx [32, 42, 32] := by decide +kernel
theorem s_col3 : Str.ofString " : " = tx [32, 58, 32] := by decide +kernel
theorem s_nines : Str.ofString "123456789" = tx [49, 50, 51, 52, 53, 54, 55, 56, 57] := by decide +kernel
theorem slP_at {L A B : List Nat} (hL : L = A ++ B) (k : Nat) (h : L.length ≤ 1000000) {i j : Int} (hi : i = A.length) (hj : j = A.length + k) : slP (.str (tx L)) (some i) (some j) = .ok (.str (tx (B.take k))) := by
  subst hi
  subst hj
  rw [slP_tx _ _ h, cut_both _ _ _ (by omega) (by omega), hL, Int.toNat_natCast, List.drop_left]
  rw [show ((A.length : Int) + (k : Int)).toNat - A.length = k by omega]
def EndB (B : List Nat) : Prop := B = [] ∨ ∃ c B', B = c :: B' ∧ (c = 32 ∨ c = 41)
theorem word_run (L : List Nat) (hl : L.length ≤ 1000000) (A B : List Nat) (hB : EndB B) : ∀ (v u : List Nat), L = A ++ (u ++ (v ++ B)) → (∀ c ∈ v, c ≠ 32 ∧ c ≠ 41) →
    sWh (tAn (tB1 (e2 ltP (eVo 2) (eD lenP (aCons (eVo 0) aNil)))) (tB1 (e2 notInS (e2 ixP (eVo 0) (eVo 2)) (eC (.str " )"))))) (bSeq (sAug 2 (intP (fun _ _ => true) fun a b => .int (a + b)) (eC (.int 1))) bNil) [.val (.str (tx L)), .val (.int A.length), .val (.int ((A.length + u.length : Nat) : Int))] = .next [.val (.str (tx L)), .val (.int A.length), .val (.int ((A.length + u.length + v.length : Nat) : Int))]
  | [], u, hL, _ => by
    have ln := lenP_tx hl
    have lL : L.length = A.length + u.length + B.length := by rw [hL]; simp; omega
    rw [sWh_eq]
    rcases hB with rfl | ⟨c, B', rfl, hc⟩
    · have lt : ¬ (((A.length + u.length : Nat) : Int) < (L.length : Int)) := by rw [lL]; simp
      simp only [tAn_eq, tB1_eq, e2_eq, eD_eq, aCons_eq, aNil_eq, eVos, eVo0, bind1, ln, ltP_ii, decide_eq_false lt, asB_eq, if_neg Bool.false_ne_true, stB_ok]
      rfl
    · have lt : ((A.length + u.length : Nat) : Int) < (L.length : Int) := by rw [lL, List.length_cons]; omega
      have ix := ixP_tx (l := L) (k := ((A.length + u.length : Nat) : Int)) (c := c) (by omega) (by
        rw [Int.toNat_natCast, hL, List.nil_append, ← List.append_assoc, List.getElem?_append_right (by rw [List.length_append]; exact Nat.le_refl _), List.length_append, Nat.sub_self]; rfl) hl
      have ni := notInS_tx c [32, 41]
      have nf : (!decide (c ∈ [32, 41])) = false := by rcases hc with rfl | rfl <;> decide
      rw [nf] at ni
      simp only [tAn_eq, tB1_eq, e2_eq, eD_eq, aCons_eq, aNil_eq, eVos, eVo0, eC_eq, bind1, ln, ltP_ii, decide_eq_true lt, asB_eq, if_true, ix, s_ends, ni, if_neg Bool.false_ne_true, stB_ok]
      rfl
  | c :: v, u, hL, hv => by
    have ln := lenP_tx hl
    have lL : L.length = A.length + u.length + (v.length + 1) + B.length := by rw [hL]; simp; omega
    have lt : ((A.length + u.length : Nat) : Int) < (L.length : Int) := by rw [lL]; omega
    have ix := ixP_tx (l := L) (k := ((A.length + u.length : Nat) : Int)) (c := c) (by omega) (by
      rw [Int.toNat_natCast, hL, ← List.append_assoc, List.getElem?_append_right (by rw [List.length_append]; exact Nat.le_refl _), List.length_append, Nat.sub_self]; rfl) hl
    have ni := notInS_tx c [32, 41]
    have hc := hv c List.mem_cons_self
    have nf : (!decide (c ∈ [32, 41])) = true := by
      rw [decide_eq_false]; rfl
      intro z
      rcases List.mem_cons.mp z with z | z
      · exact hc.1 z
      · exact hc.2 (List.mem_singleton.mp z)
    rw [nf] at ni
    have ih := word_run L hl A B hB v (u ++ [c]) (by rw [hL]; simp) (fun z hz => hv z (List.mem_cons_of_mem _ hz))
    rw [List.length_append, List.length_singleton] at ih
    rw [sWh_eq]
    simp only [tAn_eq, tB1_eq, e2_eq, eD_eq, aCons_eq, aNil_eq, eVos, eVo0, eC_eq, bind1, ln, ltP_ii, decide_eq_true lt, asB_eq, if_true, ix, s_ends, ni]
    have bd : bSeq (sAug 2 (intP (fun _ _ => true) fun a b => .int (a + b)) (eC (.int 1))) bNil [.val (.str (tx L)), .val (.int A.length), .val (.int ((A.length + u.length : Nat) : Int))] = .next [.val (.str (tx L)), .val (.int A.length), .val (.int ((A.length + (u.length + 1) : Nat) : Int))] := by
      simp
      rfl
    rw [bd]
    rw [List.length_cons, show A.length + u.length + (v.length + 1) = A.length + (u.length + 1) + v.length by omega]
    exact ih
theorem f_word_at {L A B w : List Nat} (hl : L.length ≤ 1000000) (hL : L = A ++ (w ++ B)) (hB : EndB B) (hw : ∀ c ∈ w, c ≠ 32 ∧ c ≠ 41) : F_word_at [.str (tx L), .int A.length] = .ok (.str (tx w)) := by
  refine (runF_eq (n := 3) (u := D_word_at)).trans ?_
  show (D_word_at [.val (.str (tx L)), .val (.int A.length), .un]).res = _
  have r := word_run L hl A B hB w [] (by rw [hL]; rfl) hw
  rw [List.length_nil, Nat.add_zero] at r
  have sl := slP_at hL w.length hl (i := A.length) (j := ((A.length + w.length : Nat) : Int)) rfl (by omega)
  rw [List.take_left'] at sl
  · unfold D_word_at
    refine stp (.int A.length) (by simp) ?_
    simp only [List.set_cons_succ, List.set_cons_zero]
    refine stpN r ?_
    simp only [bSeq_eq, sRet_eq, eSl_eq, oSome_eq, asI_eq, eVos, eVo0, eVs, eV0, bind1, sl, st_ok, then_ret, res_ret]
  · rfl
theorem f_of_two {M : Str → Addr} (k : Nat) (u v : PV) : F_of_two M [.str (tx [32, sg k, 32]), u, v] = .ok (.obj (M (nmT k)) ["one", "other"] [u, v]) := by
  refine (runF_eq (n := 3) (u := D_of_two M)).trans ?_
  show (D_of_two M [.val (.str (tx [32, sg k, 32])), .val u, .val v]).res = _
  have as : ∀ c, c < 128 → Asc [32, c, 32] := fun c hc => Asc.cons (by omega) (Asc.cons hc (Asc.cons (by omega) Asc.nil))
  have mk : ∀ (nm : Str) (t : PV), eMk (M nm) ["one", "other"] (aCons (eV 1) (aCons (eV 2) aNil)) [.val t, .val u, .val v] = .ok (.obj (M nm) ["one", "other"] [u, v]) := fun nm t => by
    unfold eMk
    simp only [aCons_eq, aNil_eq, eVs, eV0, bind1]
    rfl
  have q : ∀ c d, c < 128 → d < 128 → eqP (.str (tx [32, c, 32])) (.str (tx [32, d, 32])) = .ok (.bl (decide ([32, c, 32] = [32, d, 32]))) := fun c d hc hd => eqP_tx (as c hc) (as d hd)
  unfold D_of_two
  match k with
  | 0 =>
    refine ifT (by simp only [tB1_eq, e2_eq, eVos, eVo0, eC_eq, bind1, s_plus, q _ _ (show sg 0 < 128 by decide) (show 43 < 128 by decide), asB_eq]; rfl) ?_
    simp only [bSeq_eq, sRet_eq, mk, st_ok, then_ret, res_ret]; rfl
  | 1 =>
    refine skp (by simp only [tB1_eq, e2_eq, eVos, eVo0, eC_eq, bind1, s_plus, q _ _ (show sg 1 < 128 by decide) (show 43 < 128 by decide), asB_eq]; rfl) ?_
    refine ifT (by simp only [tB1_eq, e2_eq, eVos, eVo0, eC_eq, bind1, s_minus, q _ _ (show sg 1 < 128 by decide) (show 45 < 128 by decide), asB_eq]; rfl) ?_
    simp only [bSeq_eq, sRet_eq, mk, st_ok, then_ret, res_ret]; rfl
  | 2 =>
    refine skp (by simp only [tB1_eq, e2_eq, eVos, eVo0, eC_eq, bind1, s_plus, q _ _ (show sg 2 < 128 by decide) (show 43 < 128 by decide), asB_eq]; rfl) ?_
    refine skp (by simp only [tB1_eq, e2_eq, eVos, eVo0, eC_eq, bind1, s_minus, q _ _ (show sg 2 < 128 by decide) (show 45 < 128 by decide), asB_eq]; rfl) ?_
    refine ifT (by simp only [tB1_eq, e2_eq, eVos, eVo0, eC_eq, bind1, s_star, q _ _ (show sg 2 < 128 by decide) (show 42 < 128 by decide), asB_eq]; rfl) ?_
    simp only [bSeq_eq, sRet_eq, mk, st_ok, then_ret, res_ret]; rfl
  | k + 3 =>
    show ((bSeq _ _) [.val (.str (tx [32, 58, 32])), .val u, .val v]).res = _
    refine skp (by simp only [tB1_eq, e2_eq, eVos, eVo0, eC_eq, bind1, s_plus, q _ _ (show 58 < 128 by decide) (show 43 < 128 by decide), asB_eq]; rfl) ?_
    refine skp (by simp only [tB1_eq, e2_eq, eVos, eVo0, eC_eq, bind1, s_minus, q _ _ (show 58 < 128 by decide) (show 45 < 128 by decide), asB_eq]; rfl) ?_
    refine skp (by simp only [tB1_eq, e2_eq, eVos, eVo0, eC_eq, bind1, s_star, q _ _ (show 58 < 128 by decide) (show 42 < 128 by decide), asB_eq]; rfl) ?_
    simp only [bSeq_eq, sRet_eq, mk, st_ok, then_ret, res_ret]; rfl
end PM
set_option Elab.async false
set_option linter.all false
set_option maxRecDepth 100000
set_option autoImplicit false
set_option exponentiation.threshold 20000
namespace PM
open PySem PySem.Spec L2 PL TL
open PyProof.Rows hiding St
theorem sgl (k : Nat) : sg k < 128 ∧ sg k ≠ 94 := by
  match k with
  | 0 => decide
  | 1 => decide
  | 2 => decide
  | k + 3 => exact ⟨by show 58 < 128; omega, by show 58 ≠ 94; omega⟩
theorem asc3 {c : Nat} (h : c < 128) : Asc [32, c, 32] := Asc.cons (by omega) (Asc.cons h (Asc.cons (by omega) Asc.nil))
theorem asc1 {c : Nat} (h : c < 128) : Asc [c] := Asc.cons h Asc.nil
theorem numT_head (a : Int) : ∃ c r, numT a = c :: r ∧ c ≠ 40 := by
  cases h : numT a with
  | nil =>
    exfalso
    unfold numT at h
    split at h
    · cases h
    · exact numL_ne _ h
  | cons c r =>
    refine ⟨c, r, rfl, fun z => ?_⟩
    exact numT_free (s := 40) a (.inl (by omega)) (by rw [h, z]; exact List.mem_cons_self)
theorem txR_part_free (bare : Bool) (a b : Int) : ∀ c ∈ txR (.part bare a b), c ≠ 32 ∧ c ≠ 41 := by
  have fr : ∀ (i : Int) c, c ∈ numT i → c ≠ 32 ∧ c ≠ 41 := fun i c hc => ⟨fun z => numT_free (s := 32) i (.inl (by omega)) (z ▸ hc), fun z => numT_free (s := 41) i (.inl (by omega)) (z ▸ hc)⟩
  cases bare with
  | true => exact fun c hc => fr a c hc
  | false =>
    intro c hc
    rcases List.mem_append.mp (show c ∈ numT a ++ 47 :: numT b from hc) with h | h
    · exact fr a c h
    · rcases List.mem_cons.mp h with h | h
      · subst h; decide
      · exact fr b c h
theorem txR_part_head (bare : Bool) (a b : Int) : ∃ c r, txR (.part bare a b) = c :: r ∧ c ≠ 40 := by
  obtain ⟨c, r, h, hc⟩ := numT_head a
  cases bare with
  | true => exact ⟨c, r, h, hc⟩
  | false => exact ⟨c, r ++ 47 :: numT b, by show numT a ++ 47 :: numT b = _; rw [h]; rfl, hc⟩
theorem txR_asc : ∀ x : RT, OkR x → Asc (txR x)
  | .part true a _, _ => numT_asc a
  | .part false a b, _ => (numT_asc a).app (Asc.cons (by omega) (numT_asc b))
  | .two k x y, h => Asc.cons (by omega) ((txR_asc x h.1).app (Asc.cons (by omega) (Asc.cons (sgl k).1 (Asc.cons (by omega) ((txR_asc y h.2).app (asc1 (by omega)))))))
  | .pow x n, h => Asc.cons (by omega) ((txR_asc x h.1).app (Asc.cons (by omega) (Asc.cons (by omega) (Asc.cons (by omega) (Asc.cons (by have := h.2.2; omega) (asc1 (by omega)))))))
theorem sAug_v {ρ : Rho} {i : Nat} {a b : Int} (h : ρ[i]? = some (.val (.int a))) : sAug i (intP (fun _ _ => true) fun a b => .int (a + b)) (eC (.int b)) ρ = .next (ρ.set i (.val (.int (a + b)))) := by
  unfold sAug
  rw [h]
  rfl
theorem sign_in (k : Nat) : inP (.str (tx [32, sg k, 32])) (.tup [.str " + ", .str " - ", .str " * ", .str " : "]) = .ok (.bl true) := by
  rw [s_plus, s_minus, s_star, s_col3]
  have f : ∀ c, c < 128 → flatP (.str (tx [32, c, 32])) = true := fun c hc => rfl
  unfold inP asQ
  dsimp only
  rw [if_pos]
  · congr 2
    simp only [List.any_cons, eqV_ss, tx_eq]
    match k with
    | 0 => rfl
    | 1 => rfl
    | 2 => rfl
    | k + 3 => rfl
  · rw [f _ (sgl k).1]
    simp only [List.all_cons, f 43 (by omega), f 45 (by omega), f 42 (by omega), f 58 (by omega)]
    rfl
theorem f_read {M : Str → Addr} : ∀ {x : RT}, OkR x → ∀ {L A B : List Nat} {d n : Nat}, L = A ++ (txR x ++ B) → Asc L → L.length ≤ 1000000 → d + depR x ≤ 10 → depR x < n → EndB B →
    F_read_at M n [.str (tx L), .int A.length, .int d] = .ok (.tup [enc M (enR x), .int ((A.length + (txR x).length : Nat) : Int)])
  | x, h, L, A, B, d, 0, _, _, _, _, hn, _ => by omega
  | .part bare a b, h, L, A, B, d, n + 1, hL, ha, hl, hd, hn, hB => by
    refine (runF_eq (n := 4) (u := D_read_at M (F_read_at M n))).trans ?_
    show (D_read_at M (F_read_at M n) [.val (.str (tx L)), .val (.int A.length), .val (.int d), .un]).res = _
    obtain ⟨c, r, hc, hc2⟩ := txR_part_head bare a b
    have s1 := slP_at hL 1 hl (i := A.length) (j := (A.length : Int) + 1) rfl rfl
    rw [hc, List.cons_append, List.take_succ_cons, List.take_zero] at s1
    have ac : c < 128 := ha c (by rw [hL, hc]; simp)
    have q := eqP_tx (asc1 ac) (asc1 (show 40 < 128 by omega))
    rw [decide_eq_false (by intro z; injection z with z; exact hc2 z)] at q
    have w := f_word_at hl hL hB (txR_part_free bare a b)
    have pf := f_part_of (M := M) bare a b h
    have ll : (txR (.part bare a b)).length ≤ 1000000 := by
      have : L.length = A.length + ((txR (.part bare a b)).length + B.length) := by rw [hL, List.length_append, List.length_append]
      omega
    have ln := lenP_tx ll
    unfold D_read_at
    refine skp (by simp only [tB1_eq, e2_eq, eSl_eq, oSome_eq, eVos, eVo0, eVs, eV0, eC_eq, bind1, asI_eq, addP_ii, s1, s_open, q, asB_eq]) ?_
    refine stp (.str (tx (txR (.part bare a b)))) (by simp only [eD_eq, aCons_eq, aNil_eq, eVs, eV0, bind1, w]) ?_
    simp only [List.set_cons_succ, List.set_cons_zero]
    simp only [bSeq_eq, sRet_eq, eD_eq, aCons_eq, aNil_eq, e2_eq, eVos, eVo0, eVs, eV0, bind1, pf, ln, addP_ii, tupP1, st_ok, then_ret, res_ret, Int.natCast_add]
    rfl
  | .two k x y, h, L, A, B, d, n + 1, hL, ha, hl, hd, hn, hB => by
    have hd : d + (1 + max (depR x) (depR y)) ≤ 10 := hd
    have hn : 1 + max (depR x) (depR y) < n + 1 := hn
    have hL : L = A ++ (40 :: (txR x ++ (32 :: sg k :: 32 :: (txR y ++ [41]))) ++ B) := hL
    have L1 : L = (A ++ [40]) ++ (txR x ++ (32 :: sg k :: 32 :: (txR y ++ 41 :: B))) := by rw [hL]; simp
    have L2 : L = (A ++ [40] ++ txR x) ++ (32 :: sg k :: 32 :: (txR y ++ 41 :: B)) := by rw [hL]; simp
    have L3 : L = (A ++ [40] ++ txR x ++ [32, sg k, 32]) ++ (txR y ++ 41 :: B) := by rw [hL]; simp
    have L4 : L = (A ++ [40] ++ txR x ++ [32, sg k, 32] ++ txR y) ++ (41 :: B) := by rw [hL]; simp
    have i1 := f_read (M := M) h.1 (d := d + 1) (n := n) L1 ha hl (by omega) (by omega) (.inr ⟨32, _, rfl, .inl rfl⟩)
    have i2 := f_read (M := M) h.2 (d := d + 1) (n := n) L3 ha hl (by omega) (by omega) (.inr ⟨41, _, rfl, .inr rfl⟩)
    have s1 := slP_at hL 1 hl (i := A.length) (j := (A.length : Int) + 1) rfl rfl
    rw [List.cons_append, List.take_succ_cons, List.take_zero] at s1
    have q1 := eqP_tx (asc1 (show 40 < 128 by omega)) (asc1 (show 40 < 128 by omega))
    have d10 : ((d : Int) == 10) = false := by rw [beq_eq_false_iff_ne]; omega
    obtain ⟨a1, ha1⟩ : ∃ a1 : Int, a1 = A.length + 1 := ⟨_, rfl⟩
    obtain ⟨a2, ha2⟩ : ∃ a2 : Int, a2 = a1 + (txR x).length := ⟨_, rfl⟩
    obtain ⟨a3, ha3⟩ : ∃ a3 : Int, a3 = a2 + 3 := ⟨_, rfl⟩
    obtain ⟨a4, ha4⟩ : ∃ a4 : Int, a4 = a3 + (txR y).length := ⟨_, rfl⟩
    have e1 : ((A ++ [40]).length : Int) = a1 := by rw [List.length_append, List.length_singleton, ha1]; omega
    have z2 : (((A ++ [40]).length + (txR x).length : Nat) : Int) = a2 := by rw [ha2, ← e1]; omega
    have z2' : ((A ++ [40] ++ txR x).length : Int) = a2 := by rw [← z2, List.length_append (as := A ++ [40])]
    have e3 : ((A ++ [40] ++ txR x ++ [32, sg k, 32]).length : Int) = a3 := by rw [List.length_append (as := A ++ [40] ++ txR x), ha3, ← z2']; simp
    have e4 : (((A ++ [40] ++ txR x ++ [32, sg k, 32]).length + (txR y).length : Nat) : Int) = a4 := by rw [ha4, ← e3]; omega
    have e4' : ((A ++ [40] ++ txR x ++ [32, sg k, 32] ++ txR y).length : Int) = a4 := by rw [← e4, List.length_append (as := A ++ [40] ++ txR x ++ [32, sg k, 32])]
    have e5 : ((A.length + (txR (.two k x y)).length : Nat) : Int) = a4 + 1 := by
      show ((A.length + (40 :: (txR x ++ (32 :: sg k :: 32 :: (txR y ++ [41])))).length : Nat) : Int) = a4 + 1
      simp only [List.length_cons, List.length_append, List.length_nil]
      rw [ha4, ha3, ha2, ha1]
      omega
    rw [e1, z2] at i1
    rw [e3, e4] at i2
    have s2 := slP_at L2 3 hl (i := a2) (j := a2 + 3) z2'.symm (by rw [z2']; rfl)
    have s3 := slP_at L4 1 hl (i := a4) (j := a4 + 1) e4'.symm (by rw [e4']; rfl)
    rw [List.take_succ_cons, List.take_zero] at s3
    rw [show (32 :: sg k :: 32 :: (txR y ++ 41 :: B)).take 3 = [32, sg k, 32] from rfl] at s2
    have q2 := eqP_tx (asc3 (sgl k).1) (asc3 (show 94 < 128 by omega))
    rw [decide_eq_false (by intro z; injection z with _ z; injection z with z; exact (sgl k).2 z)] at q2
    have q3 := neP_tx (asc1 (show 41 < 128 by omega)) (asc1 (show 41 < 128 by omega))
    have si := sign_in k
    have ot := f_of_two (M := M) k (enc M (enR x)) (enc M (enR y))
    obtain ⟨X, hX⟩ : ∃ X, X = PV.str (tx L) := ⟨_, rfl⟩
    rw [← hX] at i1 i2 s1 s2 s3 ⊢
    have t4 : ∀ a b c d : PV, tupP [a, b, c, d] = .ok (.tup [a, b, c, d]) := fun _ _ _ _ => rfl
    have t2 : ∀ a b : PV, tupP [a, b] = .ok (.tup [a, b]) := fun _ _ => rfl
    have deed : F_read_deed M (F_read_at M n) [X, .int a1, .int ((d : Int) + 1)] = .ok (.tup [.obj (M (nmT k)) ["one", "other"] [enc M (enR x), enc M (enR y)], .int (a4 + 1)]) := by
      refine (runF_eq (n := 8) (u := D_read_deed M (F_read_at M n))).trans ?_
      show (D_read_deed M (F_read_at M n) [.val X, .val (.int a1), .val (.int ((d : Int) + 1)), .un, .un, .un, .un, .un]).res = _
      rw [Int.natCast_add, Int.natCast_one] at i1 i2
      unfold D_read_deed
      refine stpN (ρ' := [.val X, .val (.int a2), .val (.int ((d : Int) + 1)), .val (enc M (enR x)), .un, .un, .un, .un]) (by simp only [sTo_eq, eD_eq, aCons_eq, aNil_eq, eVs, eV0, bind1, i1, st_ok, gT_eq, gsCons_eq, gsNil_eq, gN_eq, Option.bind_some, List.set_cons_succ, List.set_cons_zero]) ?_
      refine stp (.str (tx [32, sg k, 32])) (by simp only [eSl_eq, oSome_eq, e2_eq, eVos, eVo0, eVs, eV0, eC_eq, bind1, asI_eq, addP_ii, s2]) ?_
      simp only [List.set_cons_succ, List.set_cons_zero]
      refine stpN (sAug_v (by rfl)) ?_
      simp only [List.set_cons_succ, List.set_cons_zero]
      rw [← ha3]
      refine ifF (by simp only [tB1_eq, e2_eq, eVos, eVo0, eC_eq, bind1, s_hat, q2, asB_eq]) ?_
      rw [bSeq_eq, bSeq_eq, sIf_eq]
      simp only [tB1_eq, e2_eq, eD_eq, aCons_eq, aNil_eq, eVos, eVo0, eC_eq, bind1, t4, si, asB_eq, stB_ok, if_true, bSeq_eq, sTo_eq, eVs, eV0, i2, st_ok, gT_eq, gsCons_eq, gsNil_eq, gN_eq, Option.bind_some, List.set_cons_succ, List.set_cons_zero, then_next, sSet_eq, ot, bNil_eq]
      have q3' : neP (.str (tx [41])) (.str (tx [41])) = .ok (.bl false) := q3
      simp only [bSeq_eq, sIf_eq, tB1_eq, e2_eq, eSl_eq, oSome_eq, eVos, eVo0, eVs, eV0, eC_eq, bind1, asI_eq, addP_ii, s3, s_close, q3', asB_eq, stB_ok, if_neg Bool.false_ne_true, bNil_eq, then_next, sRet_eq, eD_eq, aCons_eq, aNil_eq, t2, st_ok, then_ret, res_ret]
    refine (runF_eq (n := 4) (u := D_read_at M (F_read_at M n))).trans ?_
    show (D_read_at M (F_read_at M n) [.val X, .val (.int A.length), .val (.int d), .un]).res = _
    rw [e5]
    unfold D_read_at
    refine ifT (by simp only [tB1_eq, e2_eq, eSl_eq, oSome_eq, eVos, eVo0, eVs, eV0, eC_eq, bind1, asI_eq, addP_ii, s1, s_open, q1, asB_eq]; rfl) ?_
    rw [bSeq_eq, bSeq_eq, sIf_eq]
    rw [ha1] at deed
    simp only [tB1_eq, e2_eq, eVos, eVo0, eC_eq, bind1, eqP_ii, d10, asB_eq, stB_ok, if_neg Bool.false_ne_true, bNil_eq, then_next, bSeq_eq, sRet_eq, eD_eq, aCons_eq, aNil_eq, eVs, eV0, addP_ii, deed, st_ok, then_ret, res_ret]
    rfl
  | .pow x N, h, L, A, B, d, n + 1, hL, ha, hl, hd, hn, hB => by
    have hd : d + (1 + depR x) ≤ 10 := hd
    have hn : 1 + depR x < n + 1 := hn
    obtain ⟨h1, h2, h3⟩ : OkR x ∧ 1 ≤ N ∧ N ≤ 9 := h
    have hL : L = A ++ (40 :: (txR x ++ (32 :: 94 :: 32 :: (48 + N) :: [41])) ++ B) := hL
    have L1 : L = (A ++ [40]) ++ (txR x ++ (32 :: 94 :: 32 :: (48 + N) :: 41 :: B)) := by rw [hL]; simp
    have L2 : L = (A ++ [40] ++ txR x) ++ (32 :: 94 :: 32 :: (48 + N) :: 41 :: B) := by rw [hL]; simp
    have L3 : L = (A ++ [40] ++ txR x ++ [32, 94, 32]) ++ ((48 + N) :: 41 :: B) := by rw [hL]; simp
    have L4 : L = (A ++ [40] ++ txR x ++ [32, 94, 32] ++ [48 + N]) ++ (41 :: B) := by rw [hL]; simp
    have i1 := f_read (M := M) h1 (d := d + 1) (n := n) L1 ha hl (by omega) (by omega) (.inr ⟨32, _, rfl, .inl rfl⟩)
    have s1 := slP_at hL 1 hl (i := A.length) (j := (A.length : Int) + 1) rfl rfl
    rw [List.cons_append, List.take_succ_cons, List.take_zero] at s1
    have q1 := eqP_tx (asc1 (show 40 < 128 by omega)) (asc1 (show 40 < 128 by omega))
    have d10 : ((d : Int) == 10) = false := by rw [beq_eq_false_iff_ne]; omega
    obtain ⟨a1, ha1⟩ : ∃ a1 : Int, a1 = A.length + 1 := ⟨_, rfl⟩
    obtain ⟨a2, ha2⟩ : ∃ a2 : Int, a2 = a1 + (txR x).length := ⟨_, rfl⟩
    obtain ⟨a3, ha3⟩ : ∃ a3 : Int, a3 = a2 + 3 := ⟨_, rfl⟩
    have e1 : ((A ++ [40]).length : Int) = a1 := by rw [List.length_append, List.length_singleton, ha1]; omega
    have z2 : (((A ++ [40]).length + (txR x).length : Nat) : Int) = a2 := by rw [ha2, ← e1]; omega
    have z2' : ((A ++ [40] ++ txR x).length : Int) = a2 := by rw [← z2, List.length_append (as := A ++ [40])]
    have e3 : ((A ++ [40] ++ txR x ++ [32, 94, 32]).length : Int) = a3 := by rw [List.length_append (as := A ++ [40] ++ txR x), ha3, ← z2']; simp
    have e4 : ((A ++ [40] ++ txR x ++ [32, 94, 32] ++ [48 + N]).length : Int) = a3 + 1 := by rw [List.length_append (as := A ++ [40] ++ txR x ++ [32, 94, 32]), ← e3]; simp
    have e5 : ((A.length + (txR (.pow x N)).length : Nat) : Int) = a3 + 1 + 1 := by
      show ((A.length + (40 :: (txR x ++ (32 :: 94 :: 32 :: (48 + N) :: [41]))).length : Nat) : Int) = _
      simp only [List.length_cons, List.length_append, List.length_nil]
      rw [ha3, ha2, ha1]
      omega
    rw [e1, z2] at i1
    have s2 := slP_at L2 3 hl (i := a2) (j := a2 + 3) z2'.symm (by rw [z2']; rfl)
    have s3 := slP_at L3 1 hl (i := a3) (j := a3 + 1) e3.symm (by rw [e3]; rfl)
    have s4 := slP_at L4 1 hl (i := a3 + 1) (j := a3 + 1 + 1) e4.symm (by rw [e4]; rfl)
    rw [List.take_succ_cons, List.take_zero] at s3 s4
    rw [show (32 :: 94 :: 32 :: (48 + N) :: 41 :: B).take 3 = [32, 94, 32] from rfl] at s2
    have q2 := eqP_tx (asc3 (show 94 < 128 by omega)) (asc3 (show 94 < 128 by omega))
    have q3 := neP_tx (asc1 (show 41 < 128 by omega)) (asc1 (show 41 < 128 by omega))
    have q4 := eqP_tx (asc1 (show 48 + N < 128 by omega)) Asc.nil
    rw [decide_eq_false (by intro z; cases z)] at q4
    have nn : N = 1 ∨ N = 2 ∨ N = 3 ∨ N = 4 ∨ N = 5 ∨ N = 6 ∨ N = 7 ∨ N = 8 ∨ N = 9 := by omega
    have q5 := notInS_tx (48 + N) [49, 50, 51, 52, 53, 54, 55, 56, 57]
    rw [show (!decide ((48 + N) ∈ [49, 50, 51, 52, 53, 54, 55, 56, 57])) = false by rcases nn with rfl | rfl | rfl | rfl | rfl | rfl | rfl | rfl | rfl <;> decide] at q5
    have iv : intS [.str (tx [48 + N])] = .ok (.int N) := by
      rw [intS_val (by rcases nn with rfl | rfl | rfl | rfl | rfl | rfl | rfl | rfl | rfl <;> decide)]
      rcases nn with rfl | rfl | rfl | rfl | rfl | rfl | rfl | rfl | rfl <;> rfl
    obtain ⟨X, hX⟩ : ∃ X, X = PV.str (tx L) := ⟨_, rfl⟩
    rw [← hX] at i1 s1 s2 s3 s4 ⊢
    have t2 : ∀ a b : PV, tupP [a, b] = .ok (.tup [a, b]) := fun _ _ => rfl
    have deed : F_read_deed M (F_read_at M n) [X, .int a1, .int ((d : Int) + 1)] = .ok (.tup [.obj (M "Power") ["one", "n"] [enc M (enR x), .int N], .int (a3 + 1 + 1)]) := by
      refine (runF_eq (n := 8) (u := D_read_deed M (F_read_at M n))).trans ?_
      show (D_read_deed M (F_read_at M n) [.val X, .val (.int a1), .val (.int ((d : Int) + 1)), .un, .un, .un, .un, .un]).res = _
      rw [Int.natCast_add, Int.natCast_one] at i1
      unfold D_read_deed
      refine stpN (ρ' := [.val X, .val (.int a2), .val (.int ((d : Int) + 1)), .val (enc M (enR x)), .un, .un, .un, .un]) (by simp only [sTo_eq, eD_eq, aCons_eq, aNil_eq, eVs, eV0, bind1, i1, st_ok, gT_eq, gsCons_eq, gsNil_eq, gN_eq, Option.bind_some, List.set_cons_succ, List.set_cons_zero]) ?_
      refine stp (.str (tx [32, 94, 32])) (by simp only [eSl_eq, oSome_eq, e2_eq, eVos, eVo0, eVs, eV0, eC_eq, bind1, asI_eq, addP_ii, s2]) ?_
      simp only [List.set_cons_succ, List.set_cons_zero]
      refine stpN (sAug_v (by rfl)) ?_
      simp only [List.set_cons_succ, List.set_cons_zero]
      rw [← ha3]
      refine ifT (by simp only [tB1_eq, e2_eq, eVos, eVo0, eC_eq, bind1, s_hat, q2, asB_eq]; rfl) ?_
      have mk : eMk (M "Power") ["one", "n"] (aCons (eV 3) (aCons (eD intS (aCons (eVo 5) aNil)) aNil)) [.val X, .val (.int a3), .val (.int ((d : Int) + 1)), .val (enc M (enR x)), .val (.str (tx [32, 94, 32])), .val (.str (tx [48 + N])), .un, .un] = .ok (.obj (M "Power") ["one", "n"] [enc M (enR x), .int N]) := by
        unfold eMk
        simp only [aCons_eq, aNil_eq, eD_eq, eVs, eV0, eVos, eVo0, bind1, iv]
        rfl
      have tst : (tOr' (tB1 (e2 eqP (eVo 5) (eC (.str "")))) (tB1 (e2 notInS (eVo 5) (eC (.str "123456789"))))) [.val X, .val (.int a3), .val (.int ((d : Int) + 1)), .val (enc M (enR x)), .val (.str (tx [32, 94, 32])), .val (.str (tx [48 + N])), .un, .un] = .ok false := by
        simp only [tOr_eq, tB1_eq, e2_eq, eVos, eVo0, eC_eq, bind1, s_empty, q4, asB_eq, if_neg Bool.false_ne_true, s_nines, q5]
      have au := sAug_v (ρ := [.val X, .val (.int a3), .val (.int ((d : Int) + 1)), .val (enc M (enR x)), .val (.str (tx [32, 94, 32])), .val (.str (tx [48 + N])), .val (.obj (M "Power") ["one", "n"] [enc M (enR x), .int N]), .un]) (i := 1) (a := a3) (b := 1) rfl
      rw [bSeq_eq]
      have body : ∀ k : Rho → Out, ((bSeq (sSet 5 (eSl slP (eVo 0) (oSome (eV 1)) (oSome (e2 addP (eVo 1) (eC (.int 1)))))) (bSeq (sIf (tOr' (tB1 (e2 eqP (eVo 5) (eC (.str "")))) (tB1 (e2 notInS (eVo 5) (eC (.str "123456789"))))) (bSeq (sRaise "NoText") bNil) bNil) (bSeq (sSet 6 (eMk (M "Power") ["one", "n"] (aCons (eV 3) (aCons (eD intS (aCons (eVo 5) aNil)) aNil)))) (bSeq (sAug 1 (intP (fun _ _ => true) fun a b => .int (a + b)) (eC (.int 1))) bNil)))) [.val X, .val (.int a3), .val (.int ((d : Int) + 1)), .val (enc M (enR x)), .val (.str (tx [32, 94, 32])), .un, .un, .un]).then k = k [.val X, .val (.int (a3 + 1)), .val (.int ((d : Int) + 1)), .val (enc M (enR x)), .val (.str (tx [32, 94, 32])), .val (.str (tx [48 + N])), .val (.obj (M "Power") ["one", "n"] [enc M (enR x), .int N]), .un] := fun k => by
        rw [bSeq_eq, sSet_eq]
        simp only [eSl_eq, oSome_eq, e2_eq, eVos, eVo0, eVs, eV0, eC_eq, bind1, asI_eq, addP_ii, s3, st_ok, then_next, List.set_cons_succ, List.set_cons_zero, bSeq_eq, sIf_eq, tst, stB_ok, if_neg Bool.false_ne_true, bNil_eq, sSet_eq, mk, au]
      rw [body]
      refine skp (by simp only [tB1_eq, e2_eq, eSl_eq, oSome_eq, eVos, eVo0, eVs, eV0, eC_eq, bind1, asI_eq, addP_ii, s4, s_close, q3, asB_eq]; rfl) ?_
      simp only [bSeq_eq, sRet_eq, eD_eq, aCons_eq, aNil_eq, e2_eq, eVos, eVo0, eVs, eV0, eC_eq, bind1, addP_ii, t2, st_ok, then_ret, res_ret]
    refine (runF_eq (n := 4) (u := D_read_at M (F_read_at M n))).trans ?_
    show (D_read_at M (F_read_at M n) [.val X, .val (.int A.length), .val (.int d), .un]).res = _
    rw [e5]
    unfold D_read_at
    refine ifT (by simp only [tB1_eq, e2_eq, eSl_eq, oSome_eq, eVos, eVo0, eVs, eV0, eC_eq, bind1, asI_eq, addP_ii, s1, s_open, q1, asB_eq]; rfl) ?_
    rw [bSeq_eq, bSeq_eq, sIf_eq]
    rw [ha1] at deed
    simp only [tB1_eq, e2_eq, eVos, eVo0, eC_eq, bind1, eqP_ii, d10, asB_eq, stB_ok, if_neg Bool.false_ne_true, bNil_eq, then_next, bSeq_eq, sRet_eq, eD_eq, aCons_eq, aNil_eq, eVs, eV0, addP_ii, deed, st_ok, then_ret, res_ret]
    rfl
theorem dep_en : ∀ x : RT, depT (enR x) = depR x
  | .part true _ _ => rfl
  | .part false _ _ => rfl
  | .two k x y => by show 1 + max (depT (enR x)) (depT (enR y)) = 1 + max (depR x) (depR y); rw [dep_en x, dep_en y]
  | .pow x n => by show 1 + depT (enR x) = 1 + depR x; rw [dep_en x]
theorem g_weight {M : Str → Addr} (h : (cs6 M).Nodup) {S : Nat} : ∀ {t : T}, Wf S t → wtT t ≤ 100000000000000 → ∀ {n : Nat}, depT t < n → G_weight M n (M (clsT t)) [enc M t] = .ok (.int (wtT t))
  | .part a b, w, hb, 0, hn => by omega
  | .two k x y, w, hb, 0, hn => by omega
  | .pow x N, w, hb, 0, hn => by omega
  | .part a b, w, hb, n + 1, hn => by
    have g : G_weight M (n + 1) (M (clsT (.part a b))) = runF 1 (D_Term_weight M) := (pick6 h).1
    rw [g]
    rfl
  | .two k x y, w, hb, n + 1, hn => by
    have hb : wtT x + wtT y ≤ 100000000000000 := hb
    have hn : 1 + max (depT x) (depT y) < n + 1 := hn
    have i1 := g_weight h (t := x) w.1 (by omega) (n := n) (by omega)
    have i2 := g_weight h (t := y) w.2 (by omega) (n := n) (by omega)
    have g : G_weight M (n + 1) (M (clsT (.two k x y))) = runF 1 (D_Pair_weight M (G_weight M n)) := pick_two h _ _ _ k
    rw [g]
    refine (runF_eq (n := 1) (u := D_Pair_weight M (G_weight M n))).trans ?_
    show (D_Pair_weight M (G_weight M n) [.val (.obj (M (nmT k)) ["one", "other"] [enc M x, enc M y])]).res = _
    obtain ⟨ρ, hρ⟩ : ∃ ρ : Rho, ρ = [.val (.obj (M (nmT k)) ["one", "other"] [enc M x, enc M y])] := ⟨_, rfl⟩
    rw [← hρ]
    have s0 : eV 0 ρ = .ok (.obj (M (nmT k)) ["one", "other"] [enc M x, enc M y]) := by rw [hρ]; rfl
    have o1 : eFld "one" (eV 0) ρ = .ok (.obj (M (clsT x)) (fldN x) (fldV M x)) := by rw [← enc_eq]; exact eFld_ok s0 rfl
    have o2 : eFld "other" (eV 0) ρ = .ok (.obj (M (clsT y)) (fldN y) (fldV M y)) := by rw [← enc_eq]; exact eFld_ok s0 rfl
    have m1 : eMeth "weight" (cs6 M) (G_weight M n) (eFld "one" (eV 0)) aNil ρ = .ok (.int (wtT x)) := by
      rw [eMeth_ok o1 (cls6 M x) (no_meth (.inr (.inr (.inr (.inl rfl)))) x) rfl, ← enc_eq]; exact i1
    have m2 : eMeth "weight" (cs6 M) (G_weight M n) (eFld "other" (eV 0)) aNil ρ = .ok (.int (wtT y)) := by
      rw [eMeth_ok o2 (cls6 M y) (no_meth (.inr (.inr (.inr (.inl rfl)))) y) rfl, ← enc_eq]; exact i2
    unfold D_Pair_weight
    simp only [bSeq_eq, sRet_eq, e2_eq, m1, m2, bind1, addP_ii, st_ok, then_ret, res_ret]
    rw [← Int.natCast_add]; rfl
  | .pow x N, w, hb, n + 1, hn => by
    have hb : N * wtT x ≤ 100000000000000 := hb
    have hn : 1 + depT x < n + 1 := hn
    obtain ⟨w1, w2, w3⟩ : Wf S x ∧ 1 ≤ N ∧ N ≤ 9 := w
    have hbx : wtT x ≤ 100000000000000 := Nat.le_trans (by have := Nat.mul_le_mul_right (wtT x) w2; omega) hb
    have i1 := g_weight h (t := x) w1 hbx (n := n) (by omega)
    have g : G_weight M (n + 1) (M (clsT (.pow x N))) = runF 1 (D_Power_weight M (G_weight M n)) := (pick6 h).2.2.2.2.2
    rw [g]
    refine (runF_eq (n := 1) (u := D_Power_weight M (G_weight M n))).trans ?_
    show (D_Power_weight M (G_weight M n) [.val (.obj (M "Power") ["one", "n"] [enc M x, .int N])]).res = _
    obtain ⟨ρ, hρ⟩ : ∃ ρ : Rho, ρ = [.val (.obj (M "Power") ["one", "n"] [enc M x, .int N])] := ⟨_, rfl⟩
    rw [← hρ]
    have s0 : eV 0 ρ = .ok (.obj (M "Power") ["one", "n"] [enc M x, .int N]) := by rw [hρ]; rfl
    have o1 : eFld "one" (eV 0) ρ = .ok (.obj (M (clsT x)) (fldN x) (fldV M x)) := by rw [← enc_eq]; exact eFld_ok s0 rfl
    have o2 : eFld "n" (eV 0) ρ = .ok (.int N) := eFld_ok s0 rfl
    have m1 : eMeth "weight" (cs6 M) (G_weight M n) (eFld "one" (eV 0)) aNil ρ = .ok (.int (wtT x)) := by
      rw [eMeth_ok o1 (cls6 M x) (no_meth (.inr (.inr (.inr (.inl rfl)))) x) rfl, ← enc_eq]; exact i1
    have mm : mulP (.int N) (.int (wtT x)) = .ok (.int (N * wtT x)) := mulP_sm (by omega) (by omega) (by omega) (by omega)
    unfold D_Power_weight
    simp only [bSeq_eq, sRet_eq, e2_eq, o2, m1, bind1, mm, st_ok, then_ret, res_ret]
    rw [← Int.natCast_mul]; rfl
theorem wf_en : ∀ {x : RT}, OkR x → Wf 67 (enR x)
  | .part true a b, h => ⟨fbot_pos (by decide), flow (by decide), Nat.lt_of_le_of_lt (ftop_le (by decide)) (by have := h.1; omega), Nat.lt_of_le_of_lt (fbot_le (by decide)) (by decide)⟩
  | .part false a b, h => by
    obtain ⟨ha, hb, hbz⟩ := h
    have hb' : b ≠ 0 := by omega
    exact ⟨fbot_pos hb', flow hb', Nat.lt_of_le_of_lt (ftop_le hb') (by omega), Nat.lt_of_le_of_lt (fbot_le hb') (by omega)⟩
  | .two k x y, h => ⟨wf_en h.1, wf_en h.2⟩
  | .pow x n, h => ⟨wf_en h.1, h.2.1, h.2.2⟩
theorem f_read_term {M : Str → Addr} (hM : (cs6 M).Nodup) {x : RT} (h : OkR x) (hl : (txR x).length ≤ 1000000) (hd : depR x ≤ 10) (hw : wtT (enR x) ≤ 50) : F_read_term M [.str (tx (txR x))] = .ok (enc M (enR x)) := by
  refine (runF_eq (n := 3) (u := D_read_term M)).trans ?_
  show (D_read_term M [.val (.str (tx (txR x))), .un, .un]).res = _
  have r := f_read (M := M) h (L := txR x) (A := []) (B := []) (d := 0) (n := 13) (by simp) (txR_asc x h) hl (by omega) (by omega) (.inl rfl)
  have w := g_weight hM (t := enR x) (wf_en h) (by omega) (n := 14) (by rw [dep_en]; omega)
  have ln := lenP_tx hl
  rw [List.length_nil, Nat.zero_add] at r
  obtain ⟨X, hX⟩ : ∃ X, X = PV.str (tx (txR x)) := ⟨_, rfl⟩
  have iss : isiP "str" X = .ok (.bl true) := by rw [hX]; rfl
  rw [← hX] at r ln ⊢
  have wm : eMeth "weight" (cs6 M) (G_weight M 14) (eV 1) aNil [.val X, .val (enc M (enR x)), .val (.int (txR x).length)] = .ok (.int (wtT (enR x))) := by
    rw [eMeth_ok (ps := []) (show eV 1 _ = .ok (.obj (M (clsT (enR x))) (fldN (enR x)) (fldV M (enR x))) by rw [enc_eq]; rfl) (cls6 M (enR x)) (no_meth (.inr (.inr (.inr (.inl rfl)))) (enR x)) rfl, ← enc_eq]; exact w
  have gt : ¬ ((50 : Int) < (wtT (enR x) : Int)) := by omega
  have ne : neP (.int (txR x).length) (.int (txR x).length) = .ok (.bl false) := by simp
  unfold D_read_term
  refine skp (by simp only [tNt_eq, tB1_eq, e1_eq, eVo0, bind1, iss, asB_eq]; rfl) ?_
  refine stpN (ρ' := [.val X, .val (enc M (enR x)), .val (.int (txR x).length)]) (by
    have r' : F_read_at M 13 [X, .int 0, .int 0] = .ok (.tup [enc M (enR x), .int (txR x).length]) := r
    simp only [sTo_eq, eD_eq, aCons_eq, aNil_eq, eV0, eC_eq, bind1, r', st_ok, gT_eq, gsCons_eq, gsNil_eq, gN_eq, Option.bind_some, List.set_cons_succ, List.set_cons_zero]) ?_
  refine skp (by simp only [tOr_eq, tB1_eq, e2_eq, eD_eq, aCons_eq, aNil_eq, eVos, eVo0, eC_eq, bind1, ln, ne, wm, gtP_ii, decide_eq_false gt, asB_eq, if_neg Bool.false_ne_true]) ?_
  simp only [bSeq_eq, sRet_eq, eVs, eV0, st_ok, then_ret, res_ret]
end PM
set_option Elab.async false
set_option linter.all false
set_option maxRecDepth 100000
set_option autoImplicit false
set_option exponentiation.threshold 20000
namespace PM
open PySem PySem.Spec L2 PL
open PyProof.Rows hiding St
/-- the end of the deed on two with these exponents and lengths -/
def EndOf (k : Nat) (e f g : Int) (a b c : Nat) : Prop :=
  match k with
  | 0 | 1 => min e f ≤ g ∧ g + c = min (e + a) (f + b)
  | 2 => g = e + f ∧ c = min a b
  | _ => g = e - f ∧ c = min a b ∧ 1 ≤ b
/-- of two that begin alike the later one's deed ends no sooner -/
theorem EndOf.mono {k : Nat} {e f g e' f' g' : Int} {a b c a' b' c' : Nat} (h : EndOf k e f g a b c) (h' : EndOf k e' f' g' a' b' c') (x1 : e ≤ e' ∧ e + a ≤ e' + a' ∧ (a ≠ 0 → e' = e)) (x2 : f ≤ f' ∧ f + b ≤ f' + b' ∧ (b ≠ 0 → f' = f)) : g + c ≤ g' + c' := by
  match k with
  | 0 =>
    have h : min e f ≤ g ∧ g + c = min (e + a) (f + b) := h
    have h' : min e' f' ≤ g' ∧ g' + c' = min (e' + a') (f' + b') := h'
    omega
  | 1 =>
    have h : min e f ≤ g ∧ g + c = min (e + a) (f + b) := h
    have h' : min e' f' ≤ g' ∧ g' + c' = min (e' + a') (f' + b') := h'
    omega
  | 2 =>
    have h : g = e + f ∧ c = min a b := h
    have h' : g' = e' + f' ∧ c' = min a' b' := h'
    by_cases z1 : a = 0
    · omega
    · by_cases z2 : b = 0
      · omega
      · have := x1.2.2 z1
        have := x2.2.2 z2
        omega
  | k + 3 =>
    have h : g = e - f ∧ c = min a b ∧ 1 ≤ b := h
    have h' : g' = e' - f' ∧ c' = min a' b' ∧ 1 ≤ b' := h'
    have := x2.2.2 (by omega)
    by_cases z1 : a = 0
    · omega
    · have := x1.2.2 z1
      omega
end PM
set_option Elab.async false
set_option linter.all false
set_option maxRecDepth 100000
set_option autoImplicit false
set_option exponentiation.threshold 20000
namespace PM
open PySem PySem.Spec L2 PL
open PyProof.Rows hiding St
/-- what holds of all that is known -/
structure Inv (p : Int) (Z C : Nat) (t : T) (w : Int × List Int) : Prop where
  lf : Lf p w.2 (Z + 10 * depT t)
  sz : w.1.natAbs < 2 ^ (10 + 4 * depT t)
  bg : ∃ u, valT t = some u ∧ Bg p u.1 u.2 w.1 w.2
  far : -(((C + 5) * wtT t : Nat) : Int) + 5 ≤ w.1 ∧ w.1 + w.2.length ≤ (((C + 5) * wtT t : Nat) : Int) - 5
end PM
set_option Elab.async false
set_option linter.all false
set_option maxRecDepth 100000
set_option autoImplicit false
set_option exponentiation.threshold 20000
namespace PM
open PySem PySem.Spec L2 PL
open PyProof.Rows hiding St
end PM
set_option Elab.async false
set_option linter.all false
set_option maxRecDepth 100000
set_option autoImplicit false
set_option exponentiation.threshold 20000
namespace PM
open PySem PySem.Spec L2 PL
open PyProof.Rows hiding St
end PM
set_option Elab.async false
set_option linter.all false
set_option maxRecDepth 100000
set_option autoImplicit false
set_option exponentiation.threshold 20000
namespace PM
open PySem PySem.Spec L2 PL TL
open PyProof.Rows hiding St
def shT : T → List Nat
  | .part a b => if b = 1 then numT a else numT a ++ 47 :: numT b
  | .two k x y => 40 :: (shT x ++ (32 :: sg k :: 32 :: (shT y ++ [41])))
  | .pow x n => 40 :: (shT x ++ (32 :: 94 :: 32 :: (48 + n) :: [41]))
/-- the term as it is written when it is shown -/
def rT : T → RT
  | .part a b => if b = 1 then .part true a 1 else .part false a b
  | .two k x y => .two k (rT x) (rT y)
  | .pow x n => .pow (rT x) n
def W20 : T → Prop
  | .part a b => 1 ≤ b ∧ Int.gcd a b = 1 ∧ a.natAbs < 10 ^ 20 ∧ b.natAbs < 10 ^ 20
  | .two _ x y => W20 x ∧ W20 y
  | .pow x n => W20 x ∧ 1 ≤ n ∧ n ≤ 9
theorem w20_en : ∀ {x : RT}, OkR x → W20 (enR x)
  | .part true a b, h => ⟨fbot_pos (by decide), flow (by decide), Nat.lt_of_le_of_lt (ftop_le (by decide)) h.1, Nat.lt_of_le_of_lt (fbot_le (by decide)) (by decide)⟩
  | .part false a b, h => by
    obtain ⟨ha, hb, hbz⟩ := h
    have hb' : b ≠ 0 := by omega
    exact ⟨fbot_pos hb', flow hb', Nat.lt_of_le_of_lt (ftop_le hb') ha, Nat.lt_of_le_of_lt (fbot_le hb') hbz⟩
  | .two k x y, h => ⟨w20_en h.1, w20_en h.2⟩
  | .pow x n, h => ⟨w20_en h.1, h.2.1, h.2.2⟩
theorem tx_rT : ∀ t : T, txR (rT t) = shT t
  | .part a b => by
    unfold rT shT
    split
    · rfl
    · rfl
  | .two k x y => by
    show 40 :: (txR (rT x) ++ (32 :: sg k :: 32 :: (txR (rT y) ++ [41]))) = _
    rw [tx_rT x, tx_rT y]; rfl
  | .pow x n => by
    show 40 :: (txR (rT x) ++ (32 :: 94 :: 32 :: (48 + n) :: [41])) = _
    rw [tx_rT x]; rfl
theorem ok_rT : ∀ {t : T}, W20 t → OkR (rT t)
  | .part a b, h => by
    unfold rT
    split
    · exact ⟨h.2.2.1, by omega, by decide⟩
    · exact ⟨h.2.2.1, h.1, h.2.2.2⟩
  | .two k x y, h => ⟨ok_rT h.1, ok_rT h.2⟩
  | .pow x n, h => ⟨ok_rT h.1, h.2.1, h.2.2⟩
theorem s_p1 : Str.ofString "+" = tx [43] := by decide +kernel
theorem s_m1 : Str.ofString "*" = tx [42] := by decide +kernel
theorem g_sign {M : Str → Addr} (h : (cs6 M).Nodup) (k : Nat) (q : PV) : G_sign M (M (nmT k)) [q] = .ok (.str (tx [sg k])) := by
  unfold G_sign
  rw [pick_four h]
  match k with
  | 0 => show R.ok (PV.str "+") = _; rw [s_p1]; rfl
  | 1 => show R.ok (PV.str "-") = _; rw [s_dash]; rfl
  | 2 => show R.ok (PV.str "*") = _; rw [s_m1]; rfl
  | k + 3 => show R.ok (PV.str ":") = _; rw [s_colon]; rfl
theorem numT_1 (n : Nat) (h : n ≤ 9) : numT (n : Int) = [48 + n] := by
  unfold numT
  rw [if_neg (by omega), Int.natAbs_natCast, numL_lt (by omega)]
theorem str_num {i : Int} (h : i.natAbs < 10 ^ 20) : strP [.int i] = .ok (.str (tx (numT i))) := strP_num (Nat.lt_of_lt_of_le (show i.natAbs < 2 ^ 67 by omega) (Nat.pow_le_pow_right (by omega) (by omega)))
theorem g_shown {M : Str → Addr} (h : (cs6 M).Nodup) : ∀ {t : T}, W20 t → (shT t).length ≤ 900000 → ∀ {n : Nat}, depT t < n → G_shown M n (M (clsT t)) [enc M t] = .ok (.str (tx (shT t)))
  | .part a b, w, hb, 0, hn => by omega
  | .two k x y, w, hb, 0, hn => by omega
  | .pow x N, w, hb, 0, hn => by omega
  | .part a b, w, hb, n + 1, hn => by
    have g : G_shown M (n + 1) (M (clsT (.part a b))) = runF 1 (D_Part_shown M) := (pick6 h).1
    rw [g]
    refine (runF_eq (n := 1) (u := D_Part_shown M)).trans ?_
    show (D_Part_shown M [.val (.obj (M "Part") ["part"] [fracV a b])]).res = _
    have e := eFld_ok (nm := "part") (fo := eV 0) (ρ := [.val (.obj (M "Part") ["part"] [fracV a b])]) rfl rfl
    have i0 : ixP (fracV a b) (.int 0) = .ok (.int a) := rfl
    have i1 : ixP (fracV a b) (.int 1) = .ok (.int b) := rfl
    have sa := str_num w.2.2.1
    have sb := str_num w.2.2.2
    have la := numT_len a (k := 20) (by omega) w.2.2.1
    have lb := numT_len b (k := 20) (by omega) w.2.2.2
    have a1 := addP_tx (a := numT a) (b := [47]) (by simp; omega)
    have a2 := addP_tx (a := numT a ++ [47]) (b := numT b) (by simp; omega)
    unfold D_Part_shown
    by_cases c : b = 1
    · have c' : (b == 1) = true := by simpa using c
      refine ifT (by simp only [tB1_eq, e2_eq, e, eC_eq, bind1, i1, eqP_ii, c', asB_eq]) ?_
      show (Out.then (bSeq _ bNil _) _).res = _
      simp only [bSeq_eq, sRet_eq, eD_eq, aCons_eq, aNil_eq, e2_eq, e, eC_eq, bind1, i0, sa, st_ok, then_ret, res_ret]
      unfold shT
      rw [if_pos c]
    · have c' : (b == 1) = false := by simpa using c
      refine skp (by simp only [tB1_eq, e2_eq, e, eC_eq, bind1, i1, eqP_ii, c', asB_eq]) ?_
      simp only [bSeq_eq, sRet_eq, eD_eq, aCons_eq, aNil_eq, e2_eq, e, eC_eq, bind1, i0, i1, sa, sb, s_stroke, a1, a2, st_ok, then_ret, res_ret]
      unfold shT
      rw [if_neg c, List.append_assoc]; rfl
  | .two k x y, w, hb, n + 1, hn => by
    have hn : 1 + max (depT x) (depT y) < n + 1 := hn
    have lb : (40 :: (shT x ++ (32 :: sg k :: 32 :: (shT y ++ [41])))).length ≤ 900000 := hb
    simp only [List.length_cons, List.length_append, List.length_nil] at lb
    have i1 := g_shown h (t := x) w.1 (by omega) (n := n) (by omega)
    have i2 := g_shown h (t := y) w.2 (by omega) (n := n) (by omega)
    have g : G_shown M (n + 1) (M (clsT (.two k x y))) = runF 1 (D_Pair_shown M (G_shown M n)) := pick_two h _ _ _ k
    rw [g]
    refine (runF_eq (n := 1) (u := D_Pair_shown M (G_shown M n))).trans ?_
    show (D_Pair_shown M (G_shown M n) [.val (.obj (M (nmT k)) ["one", "other"] [enc M x, enc M y])]).res = _
    obtain ⟨ρ, hρ⟩ : ∃ ρ : Rho, ρ = [.val (.obj (M (nmT k)) ["one", "other"] [enc M x, enc M y])] := ⟨_, rfl⟩
    rw [← hρ]
    have s0 : eV 0 ρ = .ok (.obj (M (nmT k)) ["one", "other"] [enc M x, enc M y]) := by rw [hρ]; rfl
    have o1 : eFld "one" (eV 0) ρ = .ok (.obj (M (clsT x)) (fldN x) (fldV M x)) := by rw [← enc_eq]; exact eFld_ok s0 rfl
    have o2 : eFld "other" (eV 0) ρ = .ok (.obj (M (clsT y)) (fldN y) (fldV M y)) := by rw [← enc_eq]; exact eFld_ok s0 rfl
    have m1 : eMeth "shown" (cs6 M) (G_shown M n) (eFld "one" (eV 0)) aNil ρ = .ok (.str (tx (shT x))) := by
      rw [eMeth_ok o1 (cls6 M x) (no_meth (.inr (.inr (.inl rfl))) x) rfl, ← enc_eq]; exact i1
    have m2 : eMeth "shown" (cs6 M) (G_shown M n) (eFld "other" (eV 0)) aNil ρ = .ok (.str (tx (shT y))) := by
      rw [eMeth_ok o2 (cls6 M y) (no_meth (.inr (.inr (.inl rfl))) y) rfl, ← enc_eq]; exact i2
    have nos : ("sign" : Str) ∉ (["one", "other"] : List Str) := by decide +kernel
    have m3 : eMeth "sign" (cs4 M) (G_sign M) (eV 0) aNil ρ = .ok (.str (tx [sg k])) := by
      rw [eMeth_ok s0 (nm4 M k) nos (ps := []) rfl]; exact g_sign h k _
    have a1 := addP_tx (a := [40]) (b := shT x) (by simp; omega)
    have a2 := addP_tx (a := [40] ++ shT x) (b := [32]) (by simp; omega)
    have a3 := addP_tx (a := [40] ++ shT x ++ [32]) (b := [sg k]) (by simp; omega)
    have a4 := addP_tx (a := [40] ++ shT x ++ [32] ++ [sg k]) (b := [32]) (by simp; omega)
    have a5 := addP_tx (a := [40] ++ shT x ++ [32] ++ [sg k] ++ [32]) (b := shT y) (by simp; omega)
    have a6 := addP_tx (a := [40] ++ shT x ++ [32] ++ [sg k] ++ [32] ++ shT y) (b := [41]) (by simp; omega)
    have te : [40] ++ shT x ++ [32] ++ [sg k] ++ [32] ++ shT y ++ [41] = shT (.two k x y) := by
      show _ = 40 :: (shT x ++ (32 :: sg k :: 32 :: (shT y ++ [41])))
      simp
    rw [te] at a6
    unfold D_Pair_shown
    simp only [bSeq_eq, sRet_eq, e2_eq, eC_eq, m1, m2, m3, bind1, s_open, a1, s_blank, a2, a3, a4, a5, s_close, a6, st_ok, then_ret, res_ret]
  | .pow x N, w, hb, n + 1, hn => by
    have hn : 1 + depT x < n + 1 := hn
    have lb : (40 :: (shT x ++ (32 :: 94 :: 32 :: (48 + N) :: [41]))).length ≤ 900000 := hb
    simp only [List.length_cons, List.length_append, List.length_nil] at lb
    obtain ⟨w1, w2, w3⟩ : W20 x ∧ 1 ≤ N ∧ N ≤ 9 := w
    have i1 := g_shown h (t := x) w1 (by omega) (n := n) (by omega)
    have g : G_shown M (n + 1) (M (clsT (.pow x N))) = runF 1 (D_Power_shown M (G_shown M n)) := (pick6 h).2.2.2.2.2
    rw [g]
    refine (runF_eq (n := 1) (u := D_Power_shown M (G_shown M n))).trans ?_
    show (D_Power_shown M (G_shown M n) [.val (.obj (M "Power") ["one", "n"] [enc M x, .int N])]).res = _
    obtain ⟨ρ, hρ⟩ : ∃ ρ : Rho, ρ = [.val (.obj (M "Power") ["one", "n"] [enc M x, .int N])] := ⟨_, rfl⟩
    rw [← hρ]
    have s0 : eV 0 ρ = .ok (.obj (M "Power") ["one", "n"] [enc M x, .int N]) := by rw [hρ]; rfl
    have o1 : eFld "one" (eV 0) ρ = .ok (.obj (M (clsT x)) (fldN x) (fldV M x)) := by rw [← enc_eq]; exact eFld_ok s0 rfl
    have o2 : eFld "n" (eV 0) ρ = .ok (.int N) := eFld_ok s0 rfl
    have m1 : eMeth "shown" (cs6 M) (G_shown M n) (eFld "one" (eV 0)) aNil ρ = .ok (.str (tx (shT x))) := by
      rw [eMeth_ok o1 (cls6 M x) (no_meth (.inr (.inr (.inl rfl))) x) rfl, ← enc_eq]; exact i1
    have sp := str_num (i := (N : Int)) (by omega)
    rw [numT_1 N w3] at sp
    have a1 := addP_tx (a := [40]) (b := shT x) (by simp; omega)
    have a2 := addP_tx (a := [40] ++ shT x) (b := [32, 94, 32]) (by simp; omega)
    have a3 := addP_tx (a := [40] ++ shT x ++ [32, 94, 32]) (b := [48 + N]) (by simp; omega)
    have a4 := addP_tx (a := [40] ++ shT x ++ [32, 94, 32] ++ [48 + N]) (b := [41]) (by simp; omega)
    have te : [40] ++ shT x ++ [32, 94, 32] ++ [48 + N] ++ [41] = shT (.pow x N) := by
      show _ = 40 :: (shT x ++ (32 :: 94 :: 32 :: (48 + N) :: [41]))
      simp
    rw [te] at a4
    unfold D_Power_shown
    simp only [bSeq_eq, sRet_eq, e2_eq, eD_eq, aCons_eq, aNil_eq, eC_eq, m1, o2, bind1, s_open, a1, s_hat, a2, sp, a3, s_close, a4, st_ok, then_ret, res_ret]
end PM
set_option Elab.async false
set_option linter.all false
set_option maxRecDepth 100000
set_option autoImplicit false
namespace PL
open PySem PySem.Spec L2
end PL
set_option Elab.async false
set_option linter.all false
set_option maxRecDepth 100000
set_option autoImplicit false
set_option exponentiation.threshold 20000
namespace PM
open PySem PySem.Spec L2 PL TL
open PyProof.Rows hiding St
def wOk (w : List Nat) : Bool := numOk w && decide ((figs w).length ≤ 20)
theorem dv_ge : ∀ (l : List Nat) (c : Nat), 49 ≤ c → 1 ≤ NumText.digitsVal (c :: l) := fun l c h => NumText.digitsVal_pos h
/-- figures without a 0 ahead are the figures of their number -/
theorem num_back : ∀ (n : Nat) (l : List Nat), l.length = n → l ≠ [] → l.all isDig = true → (l.head? = some 48 → l = [48]) → numL (NumText.digitsVal l) = l ∧ (NumText.digitsVal l < 10 ^ l.length)
  | 0, l, hl, hne, _, _ => absurd (List.length_eq_zero_iff.mp hl) hne
  | n + 1, l, hl, hne, hd, hz => by
    obtain ⟨l', c, rfl⟩ : ∃ l' c, l = l' ++ [c] := ⟨l.dropLast, l.getLast hne, (List.dropLast_concat_getLast hne).symm⟩
    have hc : 48 ≤ c ∧ c ≤ 57 := by
      have := List.all_eq_true.mp hd c (by simp)
      unfold isDig at this; simpa using this
    have hl' : l'.length = n := by rw [List.length_append, List.length_singleton] at hl; omega
    rw [NumText.digitsVal_snoc]
    by_cases e : l' = []
    · subst e
      have : NumText.digitsVal [] = 0 := rfl
      rw [this, Nat.zero_mul, Nat.zero_add, numL_lt (by omega), List.nil_append, List.length_singleton]
      exact ⟨congrArg (fun z => [z]) (by omega), by omega⟩
    · obtain ⟨ih1, ih2⟩ := num_back n l' hl' e (List.all_eq_true.mpr fun d h => List.all_eq_true.mp hd d (List.mem_append_left _ h)) (fun h => by
        obtain ⟨a, r, rfl⟩ : ∃ a r, l' = a :: r := by
          cases l' with
          | nil => exact absurd rfl e
          | cons a r => exact ⟨a, r, rfl⟩
        have h2 : ((a :: r) ++ [c]).head? = some 48 := by simpa using h
        have := congrArg List.length (hz h2)
        simp at this)
      have pos : 1 ≤ NumText.digitsVal l' := by
        obtain ⟨a, r, rfl⟩ : ∃ a r, l' = a :: r := by
          cases l' with
          | nil => exact absurd rfl e
          | cons a r => exact ⟨a, r, rfl⟩
        have ha : 48 ≤ a ∧ a ≤ 57 := by
          have := List.all_eq_true.mp hd a (by simp)
          unfold isDig at this; simpa using this
        have : a ≠ 48 := fun z => by
          subst z
          have := congrArg List.length (hz (by simp))
          simp at this
        exact dv_ge r a (by omega)
      obtain ⟨v, hv⟩ : ∃ v, v = NumText.digitsVal l' := ⟨_, rfl⟩
      rw [← hv] at ih1 ih2 pos ⊢
      refine ⟨?_, ?_⟩
      · rw [numL_step (by omega), show (v * 10 + (c - 48)) / 10 = v by omega, show (v * 10 + (c - 48)) % 10 = c - 48 by omega, ih1, show 48 + (c - 48) = c by omega]
      · rw [List.length_append, List.length_singleton, Nat.pow_succ]
        omega
theorem wOk_num {w : List Nat} (h : wOk w = true) : w = numT (numVal w) ∧ (numVal w).natAbs < 10 ^ 20 := by
  unfold wOk at h
  rw [Bool.and_eq_true, decide_eq_true_eq] at h
  obtain ⟨h, hl⟩ := h
  have h' := h
  unfold numOk at h'
  simp only [Bool.and_eq_true, decide_eq_true_eq] at h'
  obtain ⟨⟨⟨h1, _⟩, h3⟩, h4⟩ := h'
  have hne : figs w ≠ [] := fun z => by rw [z] at h1; cases h1
  have hz : (figs w).head? = some 48 → w = [48] := fun z => by
    rw [decide_eq_true z] at h4
    simpa using h4
  have p20 : (10 : Nat) ^ (figs w).length ≤ 10 ^ 20 := Nat.pow_le_pow_right (by omega) hl
  by_cases hh : w.head? = some 45
  · obtain ⟨r, rfl⟩ : ∃ r, w = 45 :: r := by
      cases w with
      | nil => cases hh
      | cons c r => simp at hh; subst hh; exact ⟨r, rfl⟩
    have ef : figs (45 :: r) = r := rfl
    rw [ef] at hne h3 hz p20
    have hr : r.head? ≠ some 48 := fun z => by have := hz z; simp at this
    obtain ⟨b1, b2⟩ := num_back _ r rfl hne h3 (fun z => absurd z hr)
    have pos : 1 ≤ NumText.digitsVal r := by
      obtain ⟨a, s, rfl⟩ : ∃ a s, r = a :: s := by
        cases r with
        | nil => exact absurd rfl hne
        | cons a s => exact ⟨a, s, rfl⟩
      have ha : 48 ≤ a ∧ a ≤ 57 := by
        have := List.all_eq_true.mp h3 a (by simp)
        unfold isDig at this; simpa using this
      have : a ≠ 48 := fun z => hr (by rw [z]; rfl)
      exact dv_ge s a (by omega)
    have ev : numVal (45 :: r) = -((NumText.digitsVal r : Nat) : Int) := by
      unfold numVal; rw [if_pos hh, ef]
    rw [ev]
    refine ⟨?_, by omega⟩
    unfold numT
    rw [if_pos (by omega), show (-((NumText.digitsVal r : Nat) : Int)).natAbs = NumText.digitsVal r by omega, b1]
  · have ef : figs w = w := by unfold figs; rw [if_neg hh]
    rw [ef] at hne h3 hz p20
    obtain ⟨b1, b2⟩ := num_back _ w rfl hne h3 hz
    have ev : numVal w = ((NumText.digitsVal w : Nat) : Int) := by
      unfold numVal; rw [if_neg hh, ef]
    rw [ev]
    refine ⟨?_, by omega⟩
    unfold numT
    rw [if_neg (by omega), Int.natAbs_natCast, b1]
theorem wOk_numT (i : Int) (h : i.natAbs < 10 ^ 20) : wOk (numT i) = true := by
  unfold wOk
  rw [numT_ok i (Nat.lt_of_lt_of_le h (Nat.pow_le_pow_right (by omega) (by omega))), figs_num, decide_eq_true (numL_len (by omega) h)]
  rfl
theorem strip_any (w : List Nat) : (Txt.lstripChars (tx w) (tx [45])).length = w.length - (w.takeWhile (tx [45]).cps.contains).length := by
  unfold Txt.lstripChars
  rw [PyProof.Rows.stripBy_eq]
  have hi : ∀ lo, stripHi (tx [45]).cps.contains false (tx w) lo = (tx w).length := fun _ => rfl
  rw [hi, StrLaws.sub_len _ _ _ (Nat.le_refl _), tx_len]
  rfl
theorem strip_figs {w : List Nat} (h : numOk w = true) : (Txt.lstripChars (tx w) (tx [45])).length = (figs w).length := by
  rw [strip_any]
  unfold numOk at h
  simp only [Bool.and_eq_true, decide_eq_true_eq] at h
  obtain ⟨⟨⟨h1, _⟩, h3⟩, _⟩ := h
  have nd : ∀ l : List Nat, l.all isDig = true → (l.takeWhile (tx [45]).cps.contains).length = 0 := fun l hl => by
    cases l with
    | nil => rfl
    | cons a s =>
      have ha : 48 ≤ a ∧ a ≤ 57 := by
        have := List.all_eq_true.mp hl a (by simp)
        unfold isDig at this; simpa using this
      have : (tx [45]).cps.contains a = false := by
        show (#[45] : Array Nat).contains a = false
        simp; omega
      rw [List.takeWhile_cons, this]; rfl
  by_cases hh : w.head? = some 45
  · obtain ⟨r, rfl⟩ : ∃ r, w = 45 :: r := by
      cases w with
      | nil => cases hh
      | cons c r => simp at hh; subst hh; exact ⟨r, rfl⟩
    have ef : figs (45 :: r) = r := rfl
    rw [ef] at h3 ⊢
    rw [List.takeWhile_cons, if_pos (by decide +kernel), List.length_cons, List.length_cons, nd r h3]
    omega
  · have ef : figs w = w := by unfold figs; rw [if_neg hh]
    rw [ef] at h3 ⊢
    rw [nd w h3]; rfl
theorem f_whole_any (w : List Nat) (ha : Asc w) (hl : w.length ≤ 100000) : F_whole_of [.str (tx w)] = if wOk w = true then .ok (.int (numVal w)) else .exc "NoText" := by
  by_cases h : wOk w = true
  · rw [if_pos h]
    obtain ⟨e1, e2⟩ := wOk_num h
    have q := f_whole_num (numVal w) e2
    rw [← e1] at q
    exact q
  rw [if_neg h]
  refine (runF_eq (n := 1) (u := D_whole_of)).trans ?_
  show (D_whole_of [.val (.str (tx w))]).res = _
  have nb := f_number_of w ha hl
  have ls : lstrP (.str (tx w)) (.str (tx [45])) = .ok (.str (Txt.lstripChars (tx w) (tx [45]))) := by
    unfold lstrP
    dsimp only
    rw [if_pos (by rw [tx_len]; exact size_ok (by omega))]
  obtain ⟨n, hn⟩ : ∃ n, n = (Txt.lstripChars (tx w) (tx [45])).length := ⟨_, rfl⟩
  have hn2 : n ≤ 100000 := by rw [hn, strip_any]; omega
  have ln : lenP [.str (Txt.lstripChars (tx w) (tx [45]))] = .ok (.int n) := by
    rw [← tx_tl (Txt.lstripChars (tx w) (tx [45]))]
    rw [lenP_tx (by rw [← len_tl, ← hn]; omega), ← len_tl, ← hn]
  have em : eM lstrP (eVo 0) (eC (.str "-")) [.val (.str (tx w))] = .ok (.str (Txt.lstripChars (tx w) (tx [45]))) := by
    unfold eM
    rw [eVo0, bind1]
    dsimp only
    rw [eC_eq, bind1, s_dash, ls]
  unfold D_whole_of
  by_cases gt : (20 : Int) < (n : Int)
  · refine ifT (by simp only [tB1_eq, e2_eq, eD_eq, aCons_eq, aNil_eq, eC_eq, bind1, em, ln, gtP_ii, decide_eq_true gt, asB_eq]) ?_
    simp
  · refine skp (by simp only [tB1_eq, e2_eq, eD_eq, aCons_eq, aNil_eq, eC_eq, bind1, em, ln, gtP_ii, decide_eq_false gt, asB_eq]) ?_
    have no : numOk w = false := by
      cases hk : numOk w with
      | false => rfl
      | true =>
        exfalso
        apply h
        unfold wOk
        rw [hk, decide_eq_true]; rfl
        rw [← strip_figs hk, ← hn]; omega
    rw [no, if_neg Bool.false_ne_true] at nb
    simp [nb]
/-- a word with its parts at the first stroke -/
theorem part_no {M : Str → Addr} {w : List Nat} (ha : Asc w) (hl : w.length ≤ 100000) (h47 : 47 ∉ w) (h : wOk w = false) : F_part_of M [.str (tx w)] = .exc "NoText" := by
  refine (runF_eq (n := 4) (u := D_part_of M)).trans ?_
  show (D_part_of M [.val (.str (tx w)), .un, .un, .un]).res = _
  have fa := f_whole_any w ha hl
  rw [h, if_neg Bool.false_ne_true] at fa
  have pp : partP (.str (tx w)) (.str "/") = .ok (.tup [.str (tx w), .str (tx []), .str (tx [])]) := by
    have e := SX.partition_none (a := w) (b := [47]) (by simp) (SX.par_head_none h47)
    rw [s_stroke]
    unfold partP
    dsimp only
    rw [if_pos ⟨by rfl, by rw [tx_len]; exact size_ok (by omega)⟩]
    show R.ok (PV.tup [.str (Txt.partition (SX.S w) (SX.S [47])).1, .str (Txt.partition (SX.S w) (SX.S [47])).2.1, .str (Txt.partition (SX.S w) (SX.S [47])).2.2]) = _
    rw [e]; rfl
  have em : eM partP (eVo 0) (eC (.str "/")) [.val (.str (tx w)), .un, .un, .un] = .ok (.tup [.str (tx w), .str (tx []), .str (tx [])]) := by
    unfold eM
    rw [eVo0, bind1]
    dsimp only
    rw [eC_eq, bind1, pp]
  have q := eqP_tx Asc.nil Asc.nil
  rw [← s_empty] at q
  unfold D_part_of
  refine stpN (ρ' := [.val (.str (tx w)), .val (.str (tx w)), .val (.str (tx [])), .val (.str (tx []))]) (by simp only [sTo_eq, em, st_ok, gT_eq, gsCons_eq, gsNil_eq, gN_eq, Option.bind_some, List.set_cons_succ, List.set_cons_zero]) ?_
  rw [← s_empty]
  refine ifT (by simp only [tB1_eq, e2_eq, eVos, eVo0, eC_eq, bind1, q, asB_eq]; rfl) ?_
  have mk : eMk (M "Part") ["part"] (aCons (eD (fun ps => F_fraction (ps ++ [.int 1])) (aCons (eD F_whole_of (aCons (eV 1) aNil)) aNil)) aNil) [.val (.str (tx w)), .val (.str (tx w)), .val (.str ""), .val (.str "")] = .exc "NoText" := by
    unfold eMk
    simp only [aCons_eq, aNil_eq, eD_eq, eVs, eV0, bind1, fa]
    rfl
  simp only [bSeq_eq, sRet_eq, mk]
  rfl
theorem par_some {a b : List Nat} (h47 : 47 ∉ a) (hl : a.length + b.length ≤ 100000) : partP (.str (tx (a ++ 47 :: b))) (.str "/") = .ok (.tup [.str (tx a), .str (tx [47]), .str (tx b)]) := by
  have e := SX.partition_some (a := a ++ ([47] ++ b)) (b := [47]) (by simp) (SX.par_head (c := 47) (sep := []) b h47)
  rw [s_stroke]
  unfold partP
  dsimp only
  rw [if_pos ⟨by rfl, by rw [tx_len]; exact size_ok (by rw [List.length_append, List.length_cons]; omega)⟩]
  show R.ok (PV.tup [.str (Txt.partition (SX.S (a ++ ([47] ++ b))) (SX.S [47])).1, .str (Txt.partition (SX.S (a ++ ([47] ++ b))) (SX.S [47])).2.1, .str (Txt.partition (SX.S (a ++ ([47] ++ b))) (SX.S [47])).2.2]) = _
  rw [e]; rfl
theorem part_no2 {M : Str → Addr} {a b : List Nat} (ha : Asc a) (hb : Asc b) (hl : a.length + b.length ≤ 99990) (h47 : 47 ∉ a) (h : ¬ (wOk a = true ∧ wOk b = true ∧ 1 ≤ numVal b)) : F_part_of M [.str (tx (a ++ 47 :: b))] = .exc "NoText" := by
  refine (runF_eq (n := 4) (u := D_part_of M)).trans ?_
  obtain ⟨w, hw⟩ : ∃ w, w = a ++ 47 :: b := ⟨_, rfl⟩
  have pp := par_some (a := a) (b := b) h47 (by omega)
  rw [← hw] at pp ⊢
  show (D_part_of M [.val (.str (tx w)), .un, .un, .un]).res = _
  have fa := f_whole_any a ha (by omega)
  have fb := f_whole_any b hb (by omega)
  have em : eM partP (eVo 0) (eC (.str "/")) [.val (.str (tx w)), .un, .un, .un] = .ok (.tup [.str (tx a), .str (tx [47]), .str (tx b)]) := by
    unfold eM
    rw [eVo0, bind1]
    dsimp only
    rw [eC_eq, bind1, pp]
  have q := eqP_tx (a := [47]) (b := []) (fun c hc => by rw [List.mem_singleton.mp hc]; decide) Asc.nil
  rw [← s_empty] at q
  unfold D_part_of
  refine stpN (ρ' := [.val (.str (tx w)), .val (.str (tx a)), .val (.str (tx [47])), .val (.str (tx b))]) (by simp only [sTo_eq, em, st_ok, gT_eq, gsCons_eq, gsNil_eq, gN_eq, Option.bind_some, List.set_cons_succ, List.set_cons_zero]) ?_
  refine skp (by simp only [tB1_eq, e2_eq, eVos, eVo0, eC_eq, bind1, q, asB_eq]; rfl) ?_
  by_cases h2 : wOk b = true
  · rw [if_pos h2] at fb
    by_cases h3 : numVal b < 1
    · refine ifT (by simp only [tB1_eq, e2_eq, eD_eq, aCons_eq, aNil_eq, eVs, eV0, eC_eq, bind1, fb, ltP_ii, decide_eq_true h3, asB_eq]) ?_
      simp
    · have h1 : wOk a = false := by
        cases hk : wOk a with
        | false => rfl
        | true => exact absurd ⟨hk, h2, by omega⟩ h
      rw [h1, if_neg Bool.false_ne_true] at fa
      refine skp (by simp only [tB1_eq, e2_eq, eD_eq, aCons_eq, aNil_eq, eVs, eV0, eC_eq, bind1, fb, ltP_ii, decide_eq_false h3, asB_eq]) ?_
      have mk : eMk (M "Part") ["part"] (aCons (eD F_fraction (aCons (eD F_whole_of (aCons (eV 1) aNil)) (aCons (eD F_whole_of (aCons (eV 3) aNil)) aNil))) aNil) [.val (.str (tx w)), .val (.str (tx a)), .val (.str (tx [47])), .val (.str (tx b))] = .exc "NoText" := by
        unfold eMk
        simp only [aCons_eq, aNil_eq, eD_eq, eVs, eV0, bind1, fa]
        rfl
      simp only [bSeq_eq, sRet_eq, mk]
      rfl
  · rw [if_neg h2] at fb
    have e : tB1 (e2 ltP (eD F_whole_of (aCons (eV 3) aNil)) (eC (.int 1))) [.val (.str (tx w)), .val (.str (tx a)), .val (.str (tx [47])), .val (.str (tx b))] = .exc "NoText" := by
      simp only [tB1_eq, e2_eq, eD_eq, aCons_eq, aNil_eq, eVs, eV0, eC_eq, bind1, fb]; rfl
    rw [bSeq_eq]
    have : sIf (tB1 (e2 ltP (eD F_whole_of (aCons (eV 3) aNil)) (eC (.int 1)))) (bSeq (sRaise "NoText") bNil) bNil [.val (.str (tx w)), .val (.str (tx a)), .val (.str (tx [47])), .val (.str (tx b))] = .exc "NoText" [.val (.str (tx w)), .val (.str (tx a)), .val (.str (tx [47])), .val (.str (tx b))] := by
      unfold sIf
      rw [e]
    rw [this]
    rfl
theorem split47 : ∀ w : List Nat, 47 ∉ w ∨ ∃ a b, w = a ++ 47 :: b ∧ 47 ∉ a
  | [] => .inl (fun z => nomatch z)
  | c :: w => by
    by_cases h : c = 47
    · exact .inr ⟨[], w, by rw [h]; rfl, fun z => nomatch z⟩
    · rcases split47 w with z | ⟨a, b, rfl, hz⟩
      · exact .inl fun z2 => (List.mem_cons.mp z2).elim (fun e => h e.symm) z
      · exact .inr ⟨c :: a, b, rfl, fun z2 => (List.mem_cons.mp z2).elim (fun e => h e.symm) hz⟩
/-- a word is a part's, or it is refused -/
def PartW (w : List Nat) : Prop := ∃ bare a b, OkR (.part bare a b) ∧ w = txR (.part bare a b)
def NoPart (w : List Nat) : Prop := (47 ∉ w ∧ wOk w = false) ∨ ∃ a b, w = a ++ 47 :: b ∧ 47 ∉ a ∧ ¬ (wOk a = true ∧ wOk b = true ∧ 1 ≤ numVal b)
theorem part_or (w : List Nat) : PartW w ∨ NoPart w := by
  rcases split47 w with h | ⟨a, b, e, h⟩
  · cases hk : wOk w with
    | true =>
      obtain ⟨e1, e2⟩ := wOk_num hk
      exact .inl ⟨true, numVal w, 1, ⟨e2, by omega, by decide⟩, e1⟩
    | false => exact .inr (.inl ⟨h, hk⟩)
  · by_cases hk : wOk a = true ∧ wOk b = true ∧ 1 ≤ numVal b
    · obtain ⟨h1, h2, h3⟩ := hk
      obtain ⟨a1, a2⟩ := wOk_num h1
      obtain ⟨b1, b2⟩ := wOk_num h2
      refine .inl ⟨false, numVal a, numVal b, ⟨a2, h3, b2⟩, ?_⟩
      show w = numT (numVal a) ++ 47 :: numT (numVal b)
      rw [← a1, ← b1]; exact e
    · exact .inr (.inr ⟨a, b, e, h, hk⟩)
theorem f_part_no {M : Str → Addr} {w : List Nat} (ha : Asc w) (hl : w.length ≤ 99000) (h : NoPart w) : F_part_of M [.str (tx w)] = .exc "NoText" := by
  rcases h with ⟨h, hk⟩ | ⟨a, b, e, h, hk⟩
  · exact part_no ha (by omega) h hk
  · subst e
    rw [List.length_append, List.length_cons] at hl
    exact part_no2 ha.left (fun c hc => ha c (by simp [hc])) (by omega) h hk
end PM
set_option Elab.async false
set_option linter.all false
set_option maxRecDepth 100000
set_option autoImplicit false
set_option exponentiation.threshold 20000
set_option maxHeartbeats 0
namespace PM
open PySem PySem.Spec L2 PL TL
open PyProof.Rows hiding St
theorem t2P (a b : PV) : tupP [a, b] = .ok (.tup [a, b]) := rfl
theorem t4P (a b c d : PV) : tupP [a, b, c, d] = .ok (.tup [a, b, c, d]) := rfl
theorem deed_tail {X m : PV} {a : Int} {E : List Nat} (s2 s3 s4 s5 s7 : Slot) (hs : slP X (some a) (some (a + 1)) = .ok (.str (tx E))) (hE : Asc E) :
    ((bSeq (sIf (tB1 (e2 neP (eSl slP (eVo 0) (oSome (eV 1)) (oSome (e2 addP (eVo 1) (eC (.int 1))))) (eC (.str ")")))) (bSeq (sRaise "NoText") bNil) bNil) (bSeq (sRet (eD tupP (aCons (eV 6) (aCons (e2 addP (eVo 1) (eC (.int 1))) aNil)))) bNil)) [.val X, .val (.int a), s2, s3, s4, s5, .val m, s7]).res = if E = [41] then .ok (.tup [m, .int (a + 1)]) else .exc "NoText" := by
  have q := neP_tx hE (asc1 (show 41 < 128 by omega))
  by_cases h : E = [41]
  · rw [if_pos h]
    rw [decide_eq_true h] at q
    refine skp (by simp only [tB1_eq, e2_eq, eSl_eq, oSome_eq, eVos, eVo0, eVs, eV0, eC_eq, bind1, asI_eq, addP_ii, hs, s_close, q, asB_eq]; rfl) ?_
    simp only [bSeq_eq, sRet_eq, eD_eq, aCons_eq, aNil_eq, e2_eq, eVos, eVo0, eVs, eV0, eC_eq, bind1, asI_eq, addP_ii, t2P, st_ok, then_ret, res_ret]
  · rw [if_neg h]
    rw [decide_eq_false h] at q
    refine ifT (by simp only [tB1_eq, e2_eq, eSl_eq, oSome_eq, eVos, eVo0, eVs, eV0, eC_eq, bind1, asI_eq, addP_ii, hs, s_close, q, asB_eq]; rfl) ?_
    simp
theorem in_signs {S : List Nat} (h : ∀ k, S ≠ [32, sg k, 32]) : inP (.str (tx S)) (.tup [.str " + ", .str " - ", .str " * ", .str " : "]) = .ok (.bl false) := by
  rw [s_plus, s_minus, s_star, s_col3]
  unfold inP asQ
  dsimp only
  have h0 := h 0
  have h1 := h 1
  have h2 := h 2
  have h3 := h 3
  rw [if_pos]
  · congr 2
    simp only [List.any_cons, eqV_ss, tx_eq]
    rw [decide_eq_false (fun z => h0 z.symm), decide_eq_false (fun z => h1 z.symm), decide_eq_false (fun z => h2 z.symm), decide_eq_false (fun z => h3 z.symm)]
    rfl
  · rfl
section
variable {M : Str → Addr} {G : List PV → R PV} {X v : PV} {a1 a2 dd : Int}
theorem deed_exc {c : Str} (h1 : G [X, .int a1, .int dd] = .exc c) : F_read_deed M G [X, .int a1, .int dd] = .exc c := by
  refine (runF_eq (n := 8) (u := D_read_deed M G)).trans ?_
  show (D_read_deed M G [.val X, .val (.int a1), .val (.int dd), .un, .un, .un, .un, .un]).res = _
  unfold D_read_deed
  rw [bSeq_eq]
  have e : sTo (gT (gsCons (gN 3) (gsCons (gN 1) gsNil))) (eD G (aCons (eV 0) (aCons (eV 1) (aCons (eV 2) aNil)))) [.val X, .val (.int a1), .val (.int dd), .un, .un, .un, .un, .un] = .exc c [.val X, .val (.int a1), .val (.int dd), .un, .un, .un, .un, .un] := by
    simp only [sTo_eq, eD_eq, aCons_eq, aNil_eq, eVs, eV0, bind1, h1]
    rfl
  rw [e]; rfl
theorem deed_none {S : List Nat} (h1 : G [X, .int a1, .int dd] = .ok (.tup [v, .int a2])) (h2 : slP X (some a2) (some (a2 + 3)) = .ok (.str (tx S))) (hS : Asc S) (n1 : S ≠ [32, 94, 32]) (n2 : ∀ k, S ≠ [32, sg k, 32]) :
    F_read_deed M G [X, .int a1, .int dd] = .exc "NoText" := by
  refine (runF_eq (n := 8) (u := D_read_deed M G)).trans ?_
  show (D_read_deed M G [.val X, .val (.int a1), .val (.int dd), .un, .un, .un, .un, .un]).res = _
  unfold D_read_deed
  refine stpN (ρ' := [.val X, .val (.int a2), .val (.int dd), .val v, .un, .un, .un, .un]) (by simp only [sTo_eq, eD_eq, aCons_eq, aNil_eq, eVs, eV0, bind1, h1, st_ok, gT_eq, gsCons_eq, gsNil_eq, gN_eq, Option.bind_some, List.set_cons_succ, List.set_cons_zero]) ?_
  refine stp (.str (tx S)) (by simp only [eSl_eq, oSome_eq, e2_eq, eVos, eVo0, eVs, eV0, eC_eq, bind1, asI_eq, addP_ii, h2]) ?_
  simp only [List.set_cons_succ, List.set_cons_zero]
  refine stpN (sAug_v (by rfl)) ?_
  simp only [List.set_cons_succ, List.set_cons_zero]
  have q := eqP_tx hS (asc3 (show 94 < 128 by omega))
  rw [decide_eq_false n1] at q
  refine ifF (by simp only [tB1_eq, e2_eq, eVos, eVo0, eVs, eV0, eC_eq, bind1, asI_eq, addP_ii, s_hat, q, asB_eq]) ?_
  have si := in_signs n2
  rw [bSeq_eq, bSeq_eq, sIf_eq]
  simp only [tB1_eq, e2_eq, eD_eq, aCons_eq, aNil_eq, eVos, eVo0, eVs, eV0, eC_eq, bind1, asI_eq, addP_ii, t4P, si, asB_eq, stB_ok, if_neg Bool.false_ne_true, bSeq_eq, sRaise_eq]
  rfl
theorem deed_two {k : Nat} {r : R PV} (h1 : G [X, .int a1, .int dd] = .ok (.tup [v, .int a2])) (h2 : slP X (some a2) (some (a2 + 3)) = .ok (.str (tx [32, sg k, 32])))
    (hr : (∃ c, G [X, .int (a2 + 3), .int dd] = .exc c ∧ r = .exc c) ∨ ∃ (u : PV) (a4 : Int) (E : List Nat), G [X, .int (a2 + 3), .int dd] = .ok (.tup [u, .int a4]) ∧ slP X (some a4) (some (a4 + 1)) = .ok (.str (tx E)) ∧ Asc E ∧ r = if E = [41] then .ok (.tup [.obj (M (nmT k)) ["one", "other"] [v, u], .int (a4 + 1)]) else .exc "NoText") :
    F_read_deed M G [X, .int a1, .int dd] = r := by
  refine (runF_eq (n := 8) (u := D_read_deed M G)).trans ?_
  show (D_read_deed M G [.val X, .val (.int a1), .val (.int dd), .un, .un, .un, .un, .un]).res = _
  unfold D_read_deed
  refine stpN (ρ' := [.val X, .val (.int a2), .val (.int dd), .val v, .un, .un, .un, .un]) (by simp only [sTo_eq, eD_eq, aCons_eq, aNil_eq, eVs, eV0, bind1, h1, st_ok, gT_eq, gsCons_eq, gsNil_eq, gN_eq, Option.bind_some, List.set_cons_succ, List.set_cons_zero]) ?_
  refine stp (.str (tx [32, sg k, 32])) (by simp only [eSl_eq, oSome_eq, e2_eq, eVos, eVo0, eVs, eV0, eC_eq, bind1, asI_eq, addP_ii, h2]) ?_
  simp only [List.set_cons_succ, List.set_cons_zero]
  refine stpN (sAug_v (by rfl)) ?_
  simp only [List.set_cons_succ, List.set_cons_zero]
  have q2 := eqP_tx (asc3 (sgl k).1) (asc3 (show 94 < 128 by omega))
  rw [decide_eq_false (by intro z; injection z with _ z; injection z with z; exact (sgl k).2 z)] at q2
  have si := sign_in k
  refine ifF (by simp only [tB1_eq, e2_eq, eVos, eVo0, eVs, eV0, eC_eq, bind1, asI_eq, addP_ii, s_hat, q2, asB_eq]) ?_
  rw [bSeq_eq, bSeq_eq, sIf_eq]
  rcases hr with ⟨c, g2, rfl⟩ | ⟨u, a4, E, g2, sE, hE, rfl⟩
  · simp only [tB1_eq, e2_eq, eD_eq, aCons_eq, aNil_eq, eVos, eVo0, eVs, eV0, eC_eq, bind1, asI_eq, addP_ii, t4P, si, asB_eq, stB_ok, if_true, bSeq_eq, sTo_eq, g2]
    rfl
  · have ot := f_of_two (M := M) k v u
    simp only [tB1_eq, e2_eq, eD_eq, aCons_eq, aNil_eq, eVos, eVo0, eVs, eV0, eC_eq, bind1, asI_eq, addP_ii, t4P, si, asB_eq, stB_ok, if_true, bSeq_eq, sTo_eq, g2, st_ok, gT_eq, gsCons_eq, gsNil_eq, gN_eq, Option.bind_some, List.set_cons_succ, List.set_cons_zero, then_next, sSet_eq, ot, bNil_eq]
    exact deed_tail (.val (.int dd)) (.val v) (.val (.str (tx [32, sg k, 32]))) .un (.val u) sE hE
theorem deed_pow {D : List Nat} {r : R PV} (h1 : G [X, .int a1, .int dd] = .ok (.tup [v, .int a2])) (h2 : slP X (some a2) (some (a2 + 3)) = .ok (.str (tx [32, 94, 32]))) (h3 : slP X (some (a2 + 3)) (some (a2 + 3 + 1)) = .ok (.str (tx D))) (hD : Asc D)
    (hr : (D = [] ∧ r = .exc "NoText") ∨ (∃ c, D = [c] ∧ ¬ (49 ≤ c ∧ c ≤ 57) ∧ r = .exc "NoText") ∨ ∃ (N : Nat) (E : List Nat), D = [48 + N] ∧ 1 ≤ N ∧ N ≤ 9 ∧ slP X (some (a2 + 3 + 1)) (some (a2 + 3 + 1 + 1)) = .ok (.str (tx E)) ∧ Asc E ∧ r = if E = [41] then .ok (.tup [.obj (M "Power") ["one", "n"] [v, .int N], .int (a2 + 3 + 1 + 1)]) else .exc "NoText") :
    F_read_deed M G [X, .int a1, .int dd] = r := by
  refine (runF_eq (n := 8) (u := D_read_deed M G)).trans ?_
  show (D_read_deed M G [.val X, .val (.int a1), .val (.int dd), .un, .un, .un, .un, .un]).res = _
  unfold D_read_deed
  refine stpN (ρ' := [.val X, .val (.int a2), .val (.int dd), .val v, .un, .un, .un, .un]) (by simp only [sTo_eq, eD_eq, aCons_eq, aNil_eq, eVs, eV0, bind1, h1, st_ok, gT_eq, gsCons_eq, gsNil_eq, gN_eq, Option.bind_some, List.set_cons_succ, List.set_cons_zero]) ?_
  refine stp (.str (tx [32, 94, 32])) (by simp only [eSl_eq, oSome_eq, e2_eq, eVos, eVo0, eVs, eV0, eC_eq, bind1, asI_eq, addP_ii, h2]) ?_
  simp only [List.set_cons_succ, List.set_cons_zero]
  refine stpN (sAug_v (by rfl)) ?_
  simp only [List.set_cons_succ, List.set_cons_zero]
  have q2 := eqP_tx (asc3 (show 94 < 128 by omega)) (asc3 (show 94 < 128 by omega))
  refine ifT (by simp only [tB1_eq, e2_eq, eVos, eVo0, eVs, eV0, eC_eq, bind1, asI_eq, addP_ii, s_hat, q2, asB_eq]; rfl) ?_
  have q4 := eqP_tx hD Asc.nil
  obtain ⟨s4, hs4⟩ : ∃ s4, s4 = Slot.val (.str (tx [32, 94, 32])) := ⟨_, rfl⟩
  rw [← hs4]
  rw [bSeq_eq, bSeq_eq, sSet_eq]
  simp only [eSl_eq, oSome_eq, e2_eq, eVos, eVo0, eVs, eV0, eC_eq, bind1, asI_eq, addP_ii, h3, st_ok, then_next, List.set_cons_succ, List.set_cons_zero]
  rw [bSeq_eq, sIf_eq]
  rcases hr with ⟨rfl, rfl⟩ | ⟨c, rfl, hc, rfl⟩ | ⟨N, E, rfl, n1, n9, sE, hE, rfl⟩
  · simp only [tOr_eq, tB1_eq, e2_eq, eVos, eVo0, eVs, eV0, eC_eq, bind1, asI_eq, addP_ii, s_empty, q4, asB_eq, decide_true, if_true, stB_ok, bSeq_eq, sRaise_eq]
    rfl
  · have q5 := notInS_tx c [49, 50, 51, 52, 53, 54, 55, 56, 57]
    rw [show (!decide (c ∈ [49, 50, 51, 52, 53, 54, 55, 56, 57])) = true by simp; omega] at q5
    rw [decide_eq_false (by intro z; cases z)] at q4
    simp only [tOr_eq, tB1_eq, e2_eq, eVos, eVo0, eVs, eV0, eC_eq, bind1, asI_eq, addP_ii, s_empty, q4, asB_eq, if_neg Bool.false_ne_true, s_nines, q5, if_true, stB_ok, bSeq_eq, sRaise_eq]
    rfl
  · have nn : N = 1 ∨ N = 2 ∨ N = 3 ∨ N = 4 ∨ N = 5 ∨ N = 6 ∨ N = 7 ∨ N = 8 ∨ N = 9 := by omega
    have q5 := notInS_tx (48 + N) [49, 50, 51, 52, 53, 54, 55, 56, 57]
    rw [show (!decide ((48 + N) ∈ [49, 50, 51, 52, 53, 54, 55, 56, 57])) = false by rcases nn with rfl | rfl | rfl | rfl | rfl | rfl | rfl | rfl | rfl <;> decide] at q5
    rw [decide_eq_false (by intro z; cases z)] at q4
    have iv : intS [.str (tx [48 + N])] = .ok (.int N) := by
      rw [intS_val (by rcases nn with rfl | rfl | rfl | rfl | rfl | rfl | rfl | rfl | rfl <;> decide)]
      rcases nn with rfl | rfl | rfl | rfl | rfl | rfl | rfl | rfl | rfl <;> rfl
    have mk : eMk (M "Power") ["one", "n"] (aCons (eV 3) (aCons (eD intS (aCons (eVo 5) aNil)) aNil)) [.val X, .val (.int (a2 + 3)), .val (.int dd), .val v, s4, .val (.str (tx [48 + N])), .un, .un] = .ok (.obj (M "Power") ["one", "n"] [v, .int N]) := by
      unfold eMk
      simp only [aCons_eq, aNil_eq, eD_eq, eVs, eV0, eVos, eVo0, bind1, iv]
      rfl
    have au := sAug_v (ρ := [.val X, .val (.int (a2 + 3)), .val (.int dd), .val v, s4, .val (.str (tx [48 + N])), .val (.obj (M "Power") ["one", "n"] [v, .int N]), .un]) (i := 1) (a := a2 + 3) (b := 1) rfl
    simp only [tOr_eq, tB1_eq, e2_eq, eVos, eVo0, eVs, eV0, eC_eq, bind1, asI_eq, addP_ii, s_empty, q4, asB_eq, if_neg Bool.false_ne_true, s_nines, q5, stB_ok, bNil_eq, then_next, bSeq_eq, sSet_eq, mk, st_ok, List.set_cons_succ, List.set_cons_zero, au]
    exact deed_tail (.val (.int dd)) (.val v) s4 (.val (.str (tx [48 + N]))) .un sE hE
end
end PM
set_option Elab.async false
set_option linter.all false
set_option maxRecDepth 100000
set_option autoImplicit false
set_option exponentiation.threshold 20000
set_option maxHeartbeats 0
namespace PM
open PySem PySem.Spec L2 PL TL
open PyProof.Rows hiding St
theorem word_cut : ∀ C : List Nat, ∃ w B, C = w ++ B ∧ EndB B ∧ ∀ c ∈ w, c ≠ 32 ∧ c ≠ 41
  | [] => ⟨[], [], rfl, .inl rfl, fun _ z => nomatch z⟩
  | c :: C => by
    by_cases h : c = 32 ∨ c = 41
    · exact ⟨[], c :: C, rfl, .inr ⟨c, C, rfl, h⟩, fun _ z => nomatch z⟩
    · obtain ⟨w, B, e, hB, hw⟩ := word_cut C
      exact ⟨c :: w, B, by rw [e]; rfl, hB, fun d hd => (List.mem_cons.mp hd).elim (fun z => by rw [z]; omega) (hw d)⟩
theorem read_word {M : Str → Addr} {n : Nat} {L A C : List Nat} {d : Nat} (hL : L = A ++ C) (ha : Asc L) (hl : L.length ≤ 1000) (h40 : C.head? ≠ some 40) (hd : d ≤ 10) :
    F_read_at M (n + 1) [.str (tx L), .int A.length, .int d] = .exc "NoText" ∨ ∃ x B, OkR x ∧ C = txR x ++ B ∧ d + depR x ≤ 10 ∧ F_read_at M (n + 1) [.str (tx L), .int A.length, .int d] = .ok (.tup [enc M (enR x), .int ((A.length + (txR x).length : Nat) : Int)]) := by
  obtain ⟨w, B, eC, hB, hw⟩ := word_cut C
  rw [eC] at hL
  rcases part_or w with ⟨bare, a, b, ok, rfl⟩ | no
  · exact .inr ⟨.part bare a b, B, ok, eC, by show d + 0 ≤ 10; omega, f_read ok hL ha (by omega) (by show d + 0 ≤ 10; omega) (by show 0 < n + 1; omega) hB⟩
  · refine .inl ?_
    refine (runF_eq (n := 4) (u := D_read_at M (F_read_at M n))).trans ?_
    show (D_read_at M (F_read_at M n) [.val (.str (tx L)), .val (.int A.length), .val (.int d), .un]).res = _
    have s1 := slP_at hL 1 (by omega) (i := A.length) (j := (A.length : Int) + 1) rfl rfl
    have a1 : Asc ((w ++ B).take 1) := (show Asc (w ++ B) from fun c hc => ha c (by rw [hL]; exact List.mem_append_right _ hc)).take 1
    have q := eqP_tx a1 (asc1 (show 40 < 128 by omega))
    rw [decide_eq_false (by
      intro z
      apply h40
      rw [eC]
      cases hh : w ++ B with
      | nil => rw [hh] at z; cases z
      | cons c r => rw [hh] at z; injection z with z; rw [z]; rfl)] at q
    have ww := f_word_at (by omega) hL hB hw
    have aw : Asc w := fun c hc => ha c (by rw [hL]; simp [hc])
    have lw : w.length ≤ 1000 := by rw [hL] at hl; simp at hl; omega
    have pf := f_part_no (M := M) aw (by omega) no
    unfold D_read_at
    refine skp (by simp only [tB1_eq, e2_eq, eSl_eq, oSome_eq, eVos, eVo0, eVs, eV0, eC_eq, bind1, asI_eq, addP_ii, s1, s_open, q, asB_eq]) ?_
    refine stp (.str (tx w)) (by simp only [eD_eq, aCons_eq, aNil_eq, eVs, eV0, bind1, ww]) ?_
    simp only [List.set_cons_succ, List.set_cons_zero]
    simp only [bSeq_eq, sRet_eq, eD_eq, aCons_eq, aNil_eq, e2_eq, eVos, eVo0, eVs, eV0, bind1, pf]
    rfl
theorem read_open {M : Str → Addr} {n : Nat} {L A C : List Nat} {d : Nat} (hL : L = A ++ 40 :: C) (ha : Asc L) (hl : L.length ≤ 1000) (hd : d ≤ 10) :
    F_read_at M (n + 1) [.str (tx L), .int A.length, .int d] = if d = 10 then .exc "NoText" else F_read_deed M (F_read_at M n) [.str (tx L), .int (A.length + 1), .int ((d : Int) + 1)] := by
  refine (runF_eq (n := 4) (u := D_read_at M (F_read_at M n))).trans ?_
  show (D_read_at M (F_read_at M n) [.val (.str (tx L)), .val (.int A.length), .val (.int d), .un]).res = _
  have s1 := slP_at hL 1 (by omega) (i := A.length) (j := (A.length : Int) + 1) rfl rfl
  rw [List.take_succ_cons, List.take_zero] at s1
  have q1 := eqP_tx (asc1 (show 40 < 128 by omega)) (asc1 (show 40 < 128 by omega))
  obtain ⟨X, hX⟩ : ∃ X, X = PV.str (tx L) := ⟨_, rfl⟩
  rw [← hX] at s1 ⊢
  unfold D_read_at
  refine ifT (by simp only [tB1_eq, e2_eq, eSl_eq, oSome_eq, eVos, eVo0, eVs, eV0, eC_eq, bind1, asI_eq, addP_ii, s1, s_open, q1, asB_eq]; rfl) ?_
  rw [bSeq_eq, bSeq_eq, sIf_eq]
  by_cases h : d = 10
  · rw [if_pos h]
    have d10 : ((d : Int) == 10) = true := by rw [beq_iff_eq]; omega
    simp only [tB1_eq, e2_eq, eVos, eVo0, eC_eq, bind1, eqP_ii, d10, asB_eq, stB_ok, if_true, bSeq_eq, sRaise_eq]
    rfl
  · rw [if_neg h]
    have d10 : ((d : Int) == 10) = false := by rw [beq_eq_false_iff_ne]; omega
    simp only [tB1_eq, e2_eq, eVos, eVo0, eC_eq, bind1, eqP_ii, d10, asB_eq, stB_ok, if_neg Bool.false_ne_true, bNil_eq, then_next, bSeq_eq, sRet_eq, eD_eq, aCons_eq, aNil_eq, eVs, eV0, addP_ii]
    cases hd : F_read_deed M (F_read_at M n) [X, .int (A.length + 1), .int ((d : Int) + 1)] with
    | stuck => rfl
    | ok p => simp
    | exc c => simp
theorem read_any {M : Str → Addr} : ∀ (n : Nat) {L A C : List Nat} {d : Nat}, L = A ++ C → Asc L → L.length ≤ 1000 → d ≤ 10 → 10 < d + n →
    F_read_at M n [.str (tx L), .int A.length, .int d] = .exc "NoText" ∨ ∃ x B, OkR x ∧ C = txR x ++ B ∧ d + depR x ≤ 10 ∧ F_read_at M n [.str (tx L), .int A.length, .int d] = .ok (.tup [enc M (enR x), .int ((A.length + (txR x).length : Nat) : Int)])
  | 0, L, A, C, d, hL, ha, hl, hd, hn => by omega
  | n + 1, L, A, C, d, hL, ha, hl, hd, hn => by
    by_cases h40 : C.head? = some 40
    · obtain ⟨C1, rfl⟩ : ∃ C1, C = 40 :: C1 := by
        cases C with
        | nil => cases h40
        | cons c r => simp at h40; subst h40; exact ⟨r, rfl⟩
      rw [read_open hL ha hl hd]
      by_cases d10 : d = 10
      · rw [if_pos d10]; exact .inl rfl
      rw [if_neg d10]
      have L1 : L = (A ++ [40]) ++ C1 := by rw [hL]; simp
      have e1 : ((A ++ [40]).length : Int) = (A.length : Int) + 1 := by rw [List.length_append, List.length_singleton]; omega
      have ed : ((d + 1 : Nat) : Int) = (d : Int) + 1 := by omega
      have i1 := read_any (M := M) n (d := d + 1) L1 ha hl (by omega) (by omega)
      rw [e1, ed] at i1
      rcases i1 with i1 | ⟨x, C2, okx, eC2, dx, i1⟩
      · exact .inl (deed_exc i1)
      subst eC2
      obtain ⟨P2, hP2⟩ : ∃ P2, P2 = A ++ [40] ++ txR x := ⟨_, rfl⟩
      have L2 : L = P2 ++ C2 := by rw [L1, hP2]; simp
      have e2 : (((A ++ [40]).length + (txR x).length : Nat) : Int) = P2.length := by rw [hP2, List.length_append (as := A ++ [40])]
      rw [e2] at i1
      have a2 : Asc C2 := fun c hc => ha c (by rw [L2]; exact List.mem_append_right _ hc)
      have s2 := slP_at L2 3 (by omega) (i := P2.length) (j := (P2.length : Int) + 3) rfl rfl
      by_cases n1 : C2.take 3 = [32, 94, 32]
      · rw [n1] at s2
        obtain ⟨C3, rfl⟩ : ∃ C3, C2 = [32, 94, 32] ++ C3 := ⟨C2.drop 3, by rw [← n1, List.take_append_drop]⟩
        have L3 : L = (P2 ++ [32, 94, 32]) ++ C3 := by rw [L2]; simp
        have e3 : ((P2 ++ [32, 94, 32]).length : Int) = (P2.length : Int) + 3 := by rw [List.length_append]; rfl
        have s3 := slP_at L3 1 (by omega) (i := (P2.length : Int) + 3) (j := (P2.length : Int) + 3 + 1) e3.symm (by rw [e3]; rfl)
        cases hC3 : C3 with
        | nil =>
          rw [hC3] at s3
          exact .inl (deed_pow i1 s2 s3 Asc.nil (.inl ⟨rfl, rfl⟩))
        | cons c C4 =>
          subst hC3
          have hc : c < 128 := a2 c (by simp)
          rw [List.take_succ_cons, List.take_zero] at s3
          by_cases hcd : 49 ≤ c ∧ c ≤ 57
          · obtain ⟨N, rfl⟩ : ∃ N, c = 48 + N := ⟨c - 48, by omega⟩
            have L4 : L = (P2 ++ [32, 94, 32] ++ [48 + N]) ++ C4 := by rw [L3]; simp
            have e4 : ((P2 ++ [32, 94, 32] ++ [48 + N]).length : Int) = (P2.length : Int) + 3 + 1 := by rw [List.length_append, ← e3]; rfl
            have s4 := slP_at L4 1 (by omega) (i := (P2.length : Int) + 3 + 1) (j := (P2.length : Int) + 3 + 1 + 1) e4.symm (by rw [e4]; rfl)
            have a4 : Asc (C4.take 1) := (show Asc C4 from fun c hc => ha c (by rw [L4]; exact List.mem_append_right _ hc)).take 1
            have r := deed_pow (M := M) i1 s2 s3 (asc1 hc) (.inr (.inr ⟨N, C4.take 1, rfl, by omega, by omega, s4, a4, rfl⟩))
            rw [r]
            by_cases hE : C4.take 1 = [41]
            · rw [if_pos hE]
              obtain ⟨B, rfl⟩ : ∃ B, C4 = 41 :: B := by
                cases C4 with
                | nil => cases hE
                | cons c _ => rw [List.take_succ_cons, List.take_zero] at hE; injection hE with hE; subst hE; exact ⟨_, rfl⟩
              refine .inr ⟨.pow x N, B, ⟨okx, by omega, by omega⟩, ?_, by show d + (1 + depR x) ≤ 10; omega, ?_⟩
              · show _ = 40 :: (txR x ++ (32 :: 94 :: 32 :: (48 + N) :: [41])) ++ B
                simp
              · have : ((A.length + (txR (.pow x N)).length : Nat) : Int) = (P2.length : Int) + 3 + 1 + 1 := by
                  show ((A.length + (40 :: (txR x ++ (32 :: 94 :: 32 :: (48 + N) :: [41]))).length : Nat) : Int) = _
                  rw [hP2]
                  simp only [List.length_cons, List.length_append, List.length_nil]
                  omega
                rw [this]; rfl
            · rw [if_neg hE]; exact .inl rfl
          · exact .inl (deed_pow i1 s2 s3 (asc1 hc) (.inr (.inl ⟨c, rfl, hcd, rfl⟩)))
      · by_cases n2 : ∃ k, C2.take 3 = [32, sg k, 32]
        · obtain ⟨k, hk⟩ := n2
          rw [hk] at s2
          obtain ⟨C3, rfl⟩ : ∃ C3, C2 = [32, sg k, 32] ++ C3 := ⟨C2.drop 3, by rw [← hk, List.take_append_drop]⟩
          have L3 : L = (P2 ++ [32, sg k, 32]) ++ C3 := by rw [L2]; simp
          have e3 : ((P2 ++ [32, sg k, 32]).length : Int) = (P2.length : Int) + 3 := by rw [List.length_append]; rfl
          have i2 := read_any (M := M) n (d := d + 1) L3 ha hl (by omega) (by omega)
          rw [e3, ed] at i2
          rcases i2 with i2 | ⟨y, C4, oky, eC4, dy, i2⟩
          · exact .inl (deed_two i1 s2 (.inl ⟨_, i2, rfl⟩))
          subst eC4
          obtain ⟨P4, hP4⟩ : ∃ P4, P4 = P2 ++ [32, sg k, 32] ++ txR y := ⟨_, rfl⟩
          have L4 : L = P4 ++ C4 := by rw [L3, hP4]; simp
          have e4 : (((P2 ++ [32, sg k, 32]).length + (txR y).length : Nat) : Int) = P4.length := by rw [hP4, List.length_append (as := P2 ++ [32, sg k, 32])]
          rw [e4] at i2
          have s4 := slP_at L4 1 (by omega) (i := P4.length) (j := (P4.length : Int) + 1) rfl rfl
          have a4 : Asc (C4.take 1) := (show Asc C4 from fun c hc => ha c (by rw [L4]; exact List.mem_append_right _ hc)).take 1
          have r := deed_two (M := M) i1 s2 (.inr ⟨_, _, C4.take 1, i2, s4, a4, rfl⟩)
          rw [r]
          by_cases hE : C4.take 1 = [41]
          · rw [if_pos hE]
            obtain ⟨B, rfl⟩ : ∃ B, C4 = 41 :: B := by
              cases C4 with
              | nil => cases hE
              | cons c _ => rw [List.take_succ_cons, List.take_zero] at hE; injection hE with hE; subst hE; exact ⟨_, rfl⟩
            refine .inr ⟨.two k x y, B, ⟨okx, oky⟩, ?_, by show d + (1 + max (depR x) (depR y)) ≤ 10; omega, ?_⟩
            · show _ = 40 :: (txR x ++ (32 :: sg k :: 32 :: (txR y ++ [41]))) ++ B
              simp
            · have : ((A.length + (txR (.two k x y)).length : Nat) : Int) = (P4.length : Int) + 1 := by
                show ((A.length + (40 :: (txR x ++ (32 :: sg k :: 32 :: (txR y ++ [41])))).length : Nat) : Int) = _
                rw [hP4, hP2]
                simp only [List.length_cons, List.length_append, List.length_nil]
                omega
              rw [this]; rfl
          · rw [if_neg hE]; exact .inl rfl
        · have a3 : Asc (C2.take 3) := a2.take 3
          exact .inl (deed_none i1 s2 a3 n1 fun k z => n2 ⟨k, z⟩)
    · exact read_word hL ha hl h40 hd
theorem numT_pos (a : Int) : 1 ≤ (numT a).length := by
  obtain ⟨c, r, h, _⟩ := numT_head a
  rw [h, List.length_cons]; omega
theorem wt_dep : ∀ {x : RT}, OkR x → wtT (enR x) ≤ (txR x).length * 9 ^ depR x
  | .part true a b, h => by
    have := numT_pos a
    show 1 ≤ (numT a).length * 9 ^ 0
    omega
  | .part false a b, h => by
    show 1 ≤ (numT a ++ 47 :: numT b).length * 9 ^ 0
    rw [List.length_append, List.length_cons]; omega
  | .two k x y, h => by
    have i1 := wt_dep h.1
    have i2 := wt_dep h.2
    show wtT (enR x) + wtT (enR y) ≤ (40 :: (txR x ++ (32 :: sg k :: 32 :: (txR y ++ [41])))).length * 9 ^ (1 + max (depR x) (depR y))
    have p1 : (9 : Nat) ^ depR x ≤ 9 ^ (1 + max (depR x) (depR y)) := Nat.pow_le_pow_right (by omega) (by omega)
    have p2 : (9 : Nat) ^ depR y ≤ 9 ^ (1 + max (depR x) (depR y)) := Nat.pow_le_pow_right (by omega) (by omega)
    generalize (9 : Nat) ^ (1 + max (depR x) (depR y)) = P at *
    have q1 := Nat.mul_le_mul_left (txR x).length p1
    have q2 := Nat.mul_le_mul_left (txR y).length p2
    have q3 : (txR x).length * P + (txR y).length * P ≤ (40 :: (txR x ++ (32 :: sg k :: 32 :: (txR y ++ [41])))).length * P := by
      rw [← Nat.add_mul]
      refine Nat.mul_le_mul_right _ ?_
      simp only [List.length_cons, List.length_append, List.length_nil]
      omega
    omega
  | .pow x n, h => by
    have i1 := wt_dep h.1
    have n9 := h.2.2
    show n * wtT (enR x) ≤ (40 :: (txR x ++ (32 :: 94 :: 32 :: (48 + n) :: [41]))).length * 9 ^ (1 + depR x)
    rw [Nat.add_comm 1, Nat.pow_succ]
    have q1 := Nat.mul_le_mul n9 i1
    have q2 : (txR x).length * (9 ^ depR x * 9) ≤ (40 :: (txR x ++ (32 :: 94 :: 32 :: (48 + n) :: [41]))).length * (9 ^ depR x * 9) := by
      refine Nat.mul_le_mul_right _ ?_
      simp only [List.length_cons, List.length_append, List.length_nil]
      omega
    rw [← Nat.mul_assoc, Nat.mul_comm _ 9] at q2
    omega
theorem wt_len {x : RT} (h : OkR x) (hl : (txR x).length ≤ 1000) (hd : depR x ≤ 10) : wtT (enR x) ≤ 100000000000000 := by
  have a := wt_dep h
  have b := Nat.mul_le_mul hl (Nat.pow_le_pow_right (show 0 < 9 by omega) hd)
  omega
/-- any text: refused, or a term's -/
theorem read_term_any {M : Str → Addr} (hM : (cs6 M).Nodup) {L : List Nat} (ha : Asc L) (hl : L.length ≤ 1000) :
    F_read_term M [.str (tx L)] = .exc "NoText" ∨ ∃ x, OkR x ∧ L = txR x ∧ depR x ≤ 10 ∧ wtT (enR x) ≤ 50 := by
  have r := read_any (M := M) 13 (L := L) (A := []) (C := L) (d := 0) rfl ha hl (by omega) (by omega)
  have go : ∀ {r}, (D_read_term M [.val (.str (tx L)), .un, .un]).res = r → F_read_term M [.str (tx L)] = r := fun h => (runF_eq (n := 3) (u := D_read_term M)).trans h
  have iss : isiP "str" (.str (tx L)) = .ok (.bl true) := rfl
  have ln := lenP_tx (l := L) (by omega)
  obtain ⟨X, hX⟩ : ∃ X, X = PV.str (tx L) := ⟨_, rfl⟩
  rw [← hX] at iss ln r go ⊢
  rcases r with r | ⟨x, B, ok, e, dx, r⟩
  · refine .inl (go ?_)
    unfold D_read_term
    refine skp (by simp only [tNt_eq, tB1_eq, e1_eq, eVo0, bind1, iss, asB_eq]; rfl) ?_
    rw [bSeq_eq]
    have r' : F_read_at M 13 [X, .int 0, .int 0] = .exc "NoText" := r
    have : sTo (gT (gsCons (gN 1) (gsCons (gN 2) gsNil))) (eD (F_read_at M 13) (aCons (eV 0) (aCons (eC (.int 0)) (aCons (eC (.int 0)) aNil)))) [.val X, .un, .un] = .exc "NoText" [.val X, .un, .un] := by
      simp only [sTo_eq, eD_eq, aCons_eq, aNil_eq, eV0, eC_eq, bind1, r']
      rfl
    rw [this]; rfl
  · have wp : wtT (enR x) ≤ 50 ∨ 50 < wtT (enR x) := by omega
    rw [List.length_nil, Nat.zero_add] at r
    have r' : F_read_at M 13 [X, .int 0, .int 0] = .ok (.tup [enc M (enR x), .int (txR x).length]) := r
    have refuse : (B ≠ [] ∨ 50 < wtT (enR x)) → F_read_term M [X] = .exc "NoText" := fun h => by
      refine go ?_
      unfold D_read_term
      refine skp (by simp only [tNt_eq, tB1_eq, e1_eq, eVo0, bind1, iss, asB_eq]; rfl) ?_
      refine stpN (ρ' := [.val X, .val (enc M (enR x)), .val (.int (txR x).length)]) (by
        simp only [sTo_eq, eD_eq, aCons_eq, aNil_eq, eV0, eC_eq, bind1, r', st_ok, gT_eq, gsCons_eq, gsNil_eq, gN_eq, Option.bind_some, List.set_cons_succ, List.set_cons_zero]) ?_
      refine ifT ?_ (by simp)
      by_cases hB : B = []
      · have w := g_weight hM (t := enR x) (wf_en ok) (wt_len ok (by rw [e, hB, List.append_nil] at hl; exact hl) (by omega)) (n := 14) (by rw [dep_en]; omega)
        have wm : eMeth "weight" (cs6 M) (G_weight M 14) (eV 1) aNil [.val X, .val (enc M (enR x)), .val (.int (txR x).length)] = .ok (.int (wtT (enR x))) := by
          rw [eMeth_ok (ps := []) (show eV 1 _ = .ok (.obj (M (clsT (enR x))) (fldN (enR x)) (fldV M (enR x))) by rw [enc_eq]; rfl) (cls6 M (enR x)) (no_meth (.inr (.inr (.inr (.inl rfl)))) (enR x)) rfl, ← enc_eq]; exact w
        have gt : (50 : Int) < (wtT (enR x) : Int) := by
          rcases h with h | h
          · exact absurd hB h
          · omega
        have ne : neP (.int (txR x).length) (.int (L.length : Int)) = .ok (.bl false) := by rw [e, hB, List.append_nil]; simp
        simp only [tOr_eq, tB1_eq, e2_eq, eD_eq, aCons_eq, aNil_eq, eVos, eVo0, eC_eq, bind1, ln, ne, wm, gtP_ii, decide_eq_true gt, asB_eq, if_neg Bool.false_ne_true]
      · have ne : neP (.int (txR x).length) (.int (L.length : Int)) = .ok (.bl true) := by
          have : 0 < B.length := List.length_pos_iff.mpr hB
          rw [neP_ii, e, List.length_append]
          have : (((txR x).length : Int) == (((txR x).length + B.length : Nat) : Int)) = false := by rw [beq_eq_false_iff_ne]; omega
          rw [this]; rfl
        simp only [tOr_eq, tB1_eq, e2_eq, eD_eq, aCons_eq, aNil_eq, eVos, eVo0, eC_eq, bind1, ln, ne, asB_eq, if_true]
    by_cases hB : B = []
    · rcases wp with wp | wp
      · exact .inr ⟨x, ok, by rw [e, hB, List.append_nil], by omega, wp⟩
      · exact .inl (refuse (.inr wp))
    · exact .inl (refuse (.inl hB))
end PM
set_option Elab.async false
set_option linter.all false
set_option maxRecDepth 100000
set_option autoImplicit false
namespace K92
open PySem PySem.Spec L2 PL PM
open PyProof.Rows hiding St
def csL : List Str := ["NoFraction", "NoText"]
noncomputable def D__law_cell_at : Rho → Out := (bSeq (sIf (tB1 (e2 ltP (eVo 1) (eD lenP (aCons (eVo 0) aNil)))) (bSeq (sRet (e2 ixP (eVo 0) (eVo 1))) bNil) bNil) (bSeq (sRet (eC (.int 0))) bNil))
noncomputable def F__law_cell_at : List PV → R PV := runF 2 D__law_cell_at
noncomputable def D__law_text : Rho → Out := (bSeq (sSetO 1 (eD lstP (aCons (eC (.str "1")) aNil))) (bSeq (sFor (iS (eV 0)) (gN 2) (bSeq (sSet 3 (eD strP (aCons (e2 subP (e2 modP (e2 fdivP (eVo 2) (eC (.int 7))) (eC (.int 31))) (eC (.int 15))) aNil))) (bSeq (sIf (tB1 (e2 eqP (e2 modP (eVo 2) (eC (.int 7))) (eC (.int 6)))) (bSeq (sSet 3 (e2 addP (e2 addP (eVo 3) (eC (.str "/"))) (eD strP (aCons (e2 addP (eC (.int 1)) (e2 modP (e2 fdivP (eVo 2) (eC (.int 217))) (eC (.int 12)))) aNil)))) bNil) bNil) (bSeq (sIf (tAn (tB1 (e2 ltP (e2 modP (eVo 2) (eC (.int 7))) (eC (.int 4)))) (tB1 (e2 gtP (eD lenP (aCons (eVo 1) aNil)) (eC (.int 1))))) (bSeq (sSet 3 (e2 addP (e2 addP (e2 addP (e2 addP (eC (.str "(")) (e2 ixP (eVo 1) (e1 negP (eC (.int 2))))) (e2 ixP (eD lstP (aCons (eC (.str " + ")) (aCons (eC (.str " - ")) (aCons (eC (.str " * ")) (aCons (eC (.str " : ")) aNil))))) (e2 modP (eVo 2) (eC (.int 7))))) (e2 ixP (eVo 1) (e1 negP (eC (.int 1))))) (eC (.str ")")))) (bSeq (sSetO 1 (eSl slL (eVo 1) oNone (oSome (e1 negP (eC (.int 2)))))) bNil)) (bSeq (sIf (tB1 (e2 eqP (e2 modP (eVo 2) (eC (.int 7))) (eC (.int 4)))) (bSeq (sSet 3 (e2 addP (e2 addP (e2 addP (e2 addP (eC (.str "(")) (e2 ixP (eVo 1) (e1 negP (eC (.int 1))))) (eC (.str " ^ "))) (eD strP (aCons (e2 addP (eC (.int 1)) (e2 modP (e2 fdivP (eVo 2) (eC (.int 7))) (eC (.int 5)))) aNil))) (eC (.str ")")))) (bSeq (sSetO 1 (eSl slL (eVo 1) oNone (oSome (e1 negP (eC (.int 1)))))) bNil)) bNil) bNil)) (bSeq (sMut 1 appP (eV 3)) bNil))))) (bSeq (sRet (e2 ixP (eVo 1) (e1 negP (eC (.int 1))))) bNil)))
noncomputable def F__law_text : List PV → R PV := runF 4 D__law_text
noncomputable def D__law_spoiled : Rho → Out := (bSeq (sSet 3 (eD lstP (aCons (eC (.str "0")) (aCons (eC (.str "1")) (aCons (eC (.str "9")) (aCons (eC (.str "(")) (aCons (eC (.str ")")) (aCons (eC (.str " ")) (aCons (eC (.str "+")) (aCons (eC (.str "-")) (aCons (eC (.str "*")) (aCons (eC (.str ":")) (aCons (eC (.str "^")) (aCons (eC (.str "/")) (aCons (eC (.str " + ")) (aCons (eC (.str " ^ 2")) (aCons (eC (.str "a")) (aCons (eC (.str "_")) (aCons (eC (.str ".")) (aCons (eC (.str "  ")) (aCons (eC (.str "\t")) aNil))))))))))))))))))))) (bSeq (sSet 4 (e2 modP (e2 fdivP (eVo 1) (eC (.int 3))) (e2 addP (eD lenP (aCons (eVo 0) aNil)) (eC (.int 1))))) (bSeq (sIf (tB1 (e2 eqP (e2 modP (eVo 1) (eC (.int 3))) (eC (.int 0)))) (bSeq (sRet (e2 addP (e2 addP (eSl slP (eVo 0) oNone (oSome (eV 4))) (e2 ixP (eVo 3) (e2 modP (eVo 2) (eC (.int 19))))) (eSl slP (eVo 0) (oSome (eV 4)) oNone))) bNil) bNil) (bSeq (sIf (tB1 (e2 eqP (e2 modP (eVo 1) (eC (.int 3))) (eC (.int 1)))) (bSeq (sRet (e2 addP (eSl slP (eVo 0) oNone (oSome (eV 4))) (eSl slP (eVo 0) (oSome (e2 addP (eVo 4) (eC (.int 1)))) oNone))) bNil) bNil) (bSeq (sRet (e2 addP (e2 addP (eSl slP (eVo 0) oNone (oSome (eV 4))) (e2 ixP (eVo 3) (e2 modP (eVo 2) (eC (.int 19))))) (eSl slP (eVo 0) (oSome (e2 addP (eVo 4) (eC (.int 1)))) oNone))) bNil)))))
noncomputable def F__law_spoiled : List PV → R PV := runF 5 D__law_spoiled
noncomputable def D__law_border : Rho → Out := (bSeq (sSet 1 (e2 modP (e2 fdivP (eVo 0) (eC (.int 4))) (eC (.int 4)))) (bSeq (sIf (tB1 (e2 eqP (e2 modP (eVo 0) (eC (.int 4))) (eC (.int 0)))) (bSeq (sRet (e2 addP (e2 addP (e2 repS (eC (.str "(")) (e2 addP (eC (.int 9)) (eVo 1))) (eC (.str "1"))) (e2 repS (eC (.str " + 1)")) (e2 addP (eC (.int 9)) (eVo 1))))) bNil) bNil) (bSeq (sIf (tB1 (e2 eqP (e2 modP (eVo 0) (eC (.int 4))) (eC (.int 1)))) (bSeq (sRet (e2 addP (e2 addP (e2 addP (e2 addP (eC (.str "((")) (eC (.str "(1 ^ 7)"))) (eC (.str " ^ 7) + "))) (e2 ixP (eD lstP (aCons (eC (.str "1")) (aCons (eC (.str "(1 + 1)")) (aCons (eC (.str "(1 ^ 1)")) (aCons (eC (.str "(1 ^ 2)")) aNil))))) (eVo 1))) (eC (.str ")")))) bNil) bNil) (bSeq (sIf (tB1 (e2 eqP (e2 modP (eVo 0) (eC (.int 4))) (eC (.int 2)))) (bSeq (sRet (e2 addP (e2 ixP (eD lstP (aCons (eC (.str "")) (aCons (eC (.str "-")) aNil))) (e2 modP (e2 fdivP (eVo 0) (eC (.int 16))) (eC (.int 2)))) (e2 repS (eC (.str "1")) (e2 addP (eC (.int 19)) (eVo 1))))) bNil) bNil) (bSeq (sRet (e2 addP (eC (.str "1/")) (e2 repS (eC (.str "1")) (e2 addP (eC (.int 19)) (eVo 1))))) bNil)))))
noncomputable def F__law_border : List PV → R PV := runF 2 D__law_border
noncomputable def D__law_is_whole : Rho → Out := (bSeq (sSet 1 (eV 0)) (bSeq (sIf (tB1 (e2 eqP (eSl slP (eVo 0) oNone (oSome (eC (.int 1)))) (eC (.str "-")))) (bSeq (sSet 1 (eSl slP (eVo 0) (oSome (eC (.int 1))) oNone)) bNil) bNil) (bSeq (sIf (tOr' (tB1 (e2 eqP (eVo 1) (eC (.str "")))) (tOr' (tB1 (e2 gtP (eD lenP (aCons (eVo 1) aNil)) (eC (.int 20)))) (tNt (tB1 (eD allP (aCons (eLc [2] (iStrP (eVo 1)) (gN 2) cYes (e2 inS (eVo 2) (eC (.str "0123456789")))) aNil)))))) (bSeq (sRet (eC (.bl false))) bNil) bNil) (bSeq (sRet (eOr (e2 neP (e2 ixP (eVo 1) (eC (.int 0))) (eC (.str "0"))) (e2 eqP (eVo 0) (eC (.str "0"))))) bNil))))
noncomputable def F__law_is_whole : List PV → R PV := runF 3 D__law_is_whole
noncomputable def D__law_part : Rho → Out := (bSeq (sTo (gT (gsCons (gN 1) (gsCons (gN 2) (gsCons (gN 3) gsNil)))) (eM partP (eVo 0) (eC (.str "/")))) (bSeq (sIf (tNt (tB1 (eD F__law_is_whole (aCons (eV 1) aNil)))) (bSeq (sRet (eC .non)) bNil) bNil) (bSeq (sIf (tB1 (e2 eqP (eVo 2) (eC (.str "")))) (bSeq (sRet (eD lstP (aCons (eV 1) (aCons (eC (.int 1)) aNil)))) bNil) bNil) (bSeq (sIf (tOr' (tNt (tB1 (eD F__law_is_whole (aCons (eV 3) aNil)))) (tB1 (e2 ltP (eD intS (aCons (eVo 3) aNil)) (eC (.int 1))))) (bSeq (sRet (eC .non)) bNil) bNil) (bSeq (sSet 4 (eD F_fraction (aCons (eD intS (aCons (eVo 1) aNil)) (aCons (eD intS (aCons (eVo 3) aNil)) aNil)))) (bSeq (sIf (tB1 (e2 eqP (e2 ixP (eVo 4) (eC (.int 1))) (eC (.int 1)))) (bSeq (sRet (eD lstP (aCons (eD strP (aCons (e2 ixP (eVo 4) (eC (.int 0))) aNil)) (aCons (eC (.int 1)) aNil)))) bNil) bNil) (bSeq (sRet (eD lstP (aCons (e2 addP (e2 addP (eD strP (aCons (e2 ixP (eVo 4) (eC (.int 0))) aNil)) (eC (.str "/"))) (eD strP (aCons (e2 ixP (eVo 4) (eC (.int 1))) aNil))) (aCons (eC (.int 1)) aNil)))) bNil)))))))
noncomputable def F__law_part : List PV → R PV := runF 5 D__law_part
noncomputable def D__law_word : Rho → Out := (bSeq (sSet 1 (eC (.int 0))) (bSeq (sWh (tAn (tB1 (e2 ltP (eVo 1) (eD lenP (aCons (eVo 0) aNil)))) (tB1 (e2 notInS (e2 ixP (eVo 0) (eVo 1)) (eC (.str " ()"))))) (bSeq (sSet 1 (e2 addP (eVo 1) (eC (.int 1)))) bNil)) (bSeq (sRet (eSl slP (eVo 0) oNone (oSome (eV 1)))) bNil)))
noncomputable def F__law_word : List PV → R PV := runF 2 D__law_word
noncomputable def D__law_shut : Rho → Out := (bSeq (sIf (tOr' (tB1 (e2 ltP (eD lenP (aCons (eVo 0) aNil)) (eC (.int 4)))) (tOr' (tB1 (e2 neP (e2 ixP (eVo 0) (e1 negP (eC (.int 4)))) (eC (.str "(")))) (tOr' (tNt (tB1 (e1 (isiP "list") (e2 ixP (eVo 0) (e1 negP (eC (.int 3))))))) (tNt (tB1 (e1 (isiP "list") (e2 ixP (eVo 0) (e1 negP (eC (.int 1)))))))))) (bSeq (sRet (eC .non)) bNil) bNil) (bSeq (sTo (gT (gsCons (gN 1) (gsCons (gN 2) (gsCons (gN 3) gsNil)))) (eSl slP (eVo 0) (oSome (e1 negP (eC (.int 3)))) oNone)) (bSeq (sIf (tB1 (e2 notInP (eVo 2) (eD lstP (aCons (eC (.str " + ")) (aCons (eC (.str " - ")) (aCons (eC (.str " * ")) (aCons (eC (.str " : ")) (aCons (eC (.str " ^ ")) aNil)))))))) (bSeq (sRet (eC .non)) bNil) bNil) (bSeq (sIf (tAn (tB1 (e2 eqP (eVo 2) (eC (.str " ^ ")))) (tOr' (tB1 (e2 neP (eD lenP (aCons (e2 ixP (eVo 3) (eC (.int 0))) aNil)) (eC (.int 1)))) (tOr' (tB1 (e2 notInS (e2 ixP (eVo 3) (eC (.int 0))) (eC (.str "123456789")))) (tB1 (e2 isBP (e2 ixP (eVo 3) (eC (.int 2))) (eC (.bl false))))))) (bSeq (sRet (eC .non)) bNil) bNil) (bSeq (sSet 4 (e2 addP (e2 ixP (eVo 1) (eC (.int 1))) (e2 ixP (eVo 3) (eC (.int 1))))) (bSeq (sIf (tB1 (e2 eqP (eVo 2) (eC (.str " ^ ")))) (bSeq (sSet 4 (e2 mulP (e2 ixP (eVo 1) (eC (.int 1))) (eD intS (aCons (e2 ixP (eVo 3) (eC (.int 0))) aNil)))) bNil) bNil) (bSeq (sRet (e2 addL (eSl slP (eVo 0) oNone (oSome (e1 negP (eC (.int 4))))) (eD lstP (aCons (eD lstP (aCons (e2 addP (e2 addP (e2 addP (e2 addP (eC (.str "(")) (e2 ixP (eVo 1) (eC (.int 0)))) (eVo 2)) (e2 ixP (eVo 3) (eC (.int 0)))) (eC (.str ")"))) (aCons (eV 4) (aCons (eC (.bl false)) aNil)))) aNil)))) bNil)))))))
noncomputable def F__law_shut : List PV → R PV := runF 5 D__law_shut
noncomputable def D__law_due : Rho → Out := (bSeq (sSetO 1 (eD lstP aNil)) (bSeq (sSet 2 (eV 0)) (bSeq (sSet 3 (eC (.int 0))) (bSeq (sWh (tAn (tB1 (e2 neP (eVo 2) (eC (.str "")))) (tAn (tB1 (e2 notNP (eVo 1) (eC .non))) (tB1 (e2 leP (eVo 3) (eC (.int 10)))))) (bSeq (sIf (tB1 (e2 eqP (e2 ixP (eVo 2) (eC (.int 0))) (eC (.str "(")))) (bSeq (sMut 1 appP (eC (.str "("))) (bSeq (sSet 3 (e2 addP (eVo 3) (eC (.int 1)))) (bSeq (sSet 2 (eSl slP (eVo 2) (oSome (eC (.int 1))) oNone)) bNil))) (bSeq (sIf (tB1 (e2 eqP (e2 ixP (eVo 2) (eC (.int 0))) (eC (.str ")")))) (sFrz 1 (bSeq (sSetN 1 (eD F__law_shut (aCons (eV 1) aNil))) (bSeq (sSet 3 (e2 subP (eVo 3) (eC (.int 1)))) (bSeq (sSet 2 (eSl slP (eVo 2) (oSome (eC (.int 1))) oNone)) bNil)))) (bSeq (sIf (tB1 (e2 eqP (e2 ixP (eVo 2) (eC (.int 0))) (eC (.str " ")))) (bSeq (sMut 1 appP (eSl slP (eVo 2) oNone (oSome (eC (.int 3))))) (bSeq (sSet 2 (eSl slP (eVo 2) (oSome (eC (.int 3))) oNone)) bNil)) (bSeq (sSet 4 (eD F__law_word (aCons (eV 2) aNil))) (bSeq (sSet 5 (eD F__law_part (aCons (eV 4) aNil))) (bSeq (sSet 2 (eSl slP (eVo 2) (oSome (eD lenP (aCons (eVo 4) aNil))) oNone)) (bSeq (sMut 1 appP (eD lstP (aCons (eC (.str "")) (aCons (eC (.int 0)) (aCons (eC (.bl false)) aNil))))) (bSeq (sIf (tB1 (e2 isNP (eVo 5) (eC .non))) (bSeq (sSetN 1 (eC .non)) bNil) (bSeq (sSetI 1 (eD lstP (aCons (e2 ixP (eVo 5) (eC (.int 0))) (aCons (eC (.int 1)) (aCons (e2 eqP (e2 ixP (eVo 5) (eC (.int 0))) (eVo 4)) aNil)))) (e1 negP (eC (.int 1)))) bNil)) bNil)))))) bNil)) bNil)) bNil)) (bSeq (sIf (tOr' (tB1 (e2 isNP (eVo 1) (eC .non))) (tOr' (tB1 (e2 neP (eVo 2) (eC (.str "")))) (tOr' (tB1 (e2 neP (eD lenP (aCons (eVo 1) aNil)) (eC (.int 1)))) (tOr' (tNt (tB1 (e1 (isiP "list") (e2 ixP (eVo 1) (eC (.int 0)))))) (tB1 (e2 gtP (e2 ixP (e2 ixP (eVo 1) (eC (.int 0))) (eC (.int 1))) (eC (.int 50)))))))) (bSeq (sRet (eC .non)) bNil) bNil) (bSeq (sRet (e2 ixP (e2 ixP (eVo 1) (eC (.int 0))) (eC (.int 0)))) bNil))))))
noncomputable def F__law_due : List PV → R PV := runF 6 D__law_due
noncomputable def D__law_others (c : Str) (a : Addr) : Rho → Out := (bSeq (sSet 1 (eD lstP (aCons (isX 0 a (subX c "NoPrime")) (aCons (isX 0 a (subX c "NoPlace")) (aCons (isX 0 a (subX c "NoFigures")) (aCons (isX 0 a (subX c "NoFraction")) aNil)))))) (bSeq (sSet 1 (e2 addP (eVo 1) (eD lstP (aCons (isX 0 a (subX c "Unlike")) (aCons (isX 0 a (subX c "NoQuotient")) (aCons (isX 0 a (subX c "NoPower")) (aCons (isX 0 a (subX c "TooFew")) aNil))))))) (bSeq (sSet 1 (e2 addP (eVo 1) (eD lstP (aCons (isX 0 a (subX c "NoSize")) (aCons (isX 0 a (subX c "NoPolynomial")) (aCons (isX 0 a (subX c "NoDepth")) (aCons (isX 0 a (subX c "NoRoot")) aNil))))))) (bSeq (sRet (eOr (eD anyP (aCons (eVo 1) aNil)) (isX 0 a (subX c "NotNear")))) bNil))))
noncomputable def F__law_others (c : Str) (a : Addr) : R PV := runX 2 (D__law_others c a) a
noncomputable def D__law_refused (M : Str → Addr) : Rho → Out := (bSeq (sSet 1 (eC (.bl false))) (bSeq (sTry 2 csL (bSeq (sDrop (eD (F_read_term M) (aCons (eV 0) aNil))) bNil) (fun c a => (bSeq (sSet 1 (eAn (isX 2 a (subX c "NoText")) (eAn (isX 2 a (subX c "ValueError")) (e1 notP (hotC 2 a (F__law_others c)))))) bNil))) (bSeq (sRet (eV 1)) bNil)))
noncomputable def F__law_refused (M : Str → Addr) : List PV → R PV := runF 3 (D__law_refused M)
noncomputable def D_law (M : Str → Addr) : Rho → Out := (bSeq (sSet 1 (eD F__law_cell_at (aCons (eV 0) (aCons (eC (.int 0)) aNil)))) (bSeq (sIf (tB1 (e2 eqP (e2 modP (eVo 1) (eC (.int 12))) (eC (.int 11)))) (bSeq (sRet (eD (F__law_refused M) (aCons (e2 ixP (eD lstP (aCons (eC .non) (aCons (eC (.int 7)) (aCons (eD lstP (aCons (eC (.str "1")) aNil)) (aCons (eC (.bl true)) (aCons (eD tupP (aCons (eC (.int 1)) (aCons (eC (.int 1)) aNil))) aNil)))))) (e2 modP (e2 fdivP (eVo 1) (eC (.int 12))) (eC (.int 5)))) aNil))) bNil) bNil) (bSeq (sSet 2 (eD F__law_text (aCons (eSl slP (eVo 0) (oSome (eC (.int 3))) (oSome (eC (.int 18)))) aNil))) (bSeq (sIf (tB1 (e2 eqP (e2 modP (eVo 1) (eC (.int 6))) (eC (.int 2)))) (bSeq (sSet 2 (eD F__law_border (aCons (e2 fdivP (eVo 1) (eC (.int 12))) aNil))) bNil) (bSeq (sIf (tB1 (e2 gtP (e2 modP (eVo 1) (eC (.int 3))) (eC (.int 0)))) (bSeq (sSet 2 (eD F__law_spoiled (aCons (eV 2) (aCons (eD F__law_cell_at (aCons (eV 0) (aCons (eC (.int 1)) aNil))) (aCons (eD F__law_cell_at (aCons (eV 0) (aCons (eC (.int 2)) aNil))) aNil))))) bNil) bNil) bNil)) (bSeq (sIf (tB1 (e2 eqP (e2 modP (eVo 1) (eC (.int 6))) (eC (.int 5)))) (bSeq (sSet 2 (eD F__law_spoiled (aCons (eV 2) (aCons (e2 fdivP (eD F__law_cell_at (aCons (eV 0) (aCons (eC (.int 2)) aNil))) (eC (.int 19))) (aCons (e2 fdivP (eD F__law_cell_at (aCons (eV 0) (aCons (eC (.int 1)) aNil))) (eC (.int 5))) aNil))))) bNil) bNil) (bSeq (sSet 3 (eD F__law_due (aCons (eV 2) aNil))) (bSeq (sIf (tB1 (e2 isNP (eVo 3) (eC .non))) (bSeq (sRet (eD (F__law_refused M) (aCons (eV 2) aNil))) bNil) bNil) (bSeq (sRet (e2 eqP (eMeth "shown" (cs6 M) (G_shown M 14) (eD (F_read_term M) (aCons (eV 2) aNil)) aNil) (eVo 3))) bNil))))))))
noncomputable def F_law (M : Str → Addr) : List PV → R PV := runF 4 (D_law M)
end K92
set_option Elab.async false
set_option linter.all false
set_option maxRecDepth 100000
set_option autoImplicit false
set_option exponentiation.threshold 20000
set_option maxHeartbeats 0
namespace K92
open PySem PySem.Spec L2 PL PM TL
open PyProof.Rows hiding St
theorem f_cell (ns : List Int) (k : Int) (h : 0 ≤ k) : F__law_cell_at [.frz (ns.map PV.int), .int k] = .ok (.int (nth ns k)) := by
  show (D__law_cell_at [.val (.frz (ns.map PV.int)), .val (.int k)]).res = _
  by_cases hk : k < ns.length
  · simp [D__law_cell_at, hk, ixP_intsF h hk]
  · have : ns[k.toNat]? = none := List.getElem?_eq_none (by omega)
    simp [D__law_cell_at, hk, nth, this]
theorem f_is_whole (l : List Nat) (ha : Asc l) (hl : l.length ≤ 100000) : F__law_is_whole [.str (tx l)] = .ok (.bl (wOk l)) := by
  refine (runF_eq (n := 3) (u := D__law_is_whole)).trans ?_
  show (D__law_is_whole [.val (.str (tx l)), .un, .un]).res = _
  have af := ha.figs
  have lf := figs_len l
  have q1 : slP (.str (tx l)) none (some 1) = .ok (.str (tx (l.take 1))) := by rw [slP_tx _ _ (by omega), cut_take _ _ (by omega)]; rfl
  have e1 : eqP (.str (tx (l.take 1))) (.str (Str.ofString "-")) = .ok (.bl (decide (l.head? = some 45))) := by
    rw [s_dash, eqP_tx (ha.take 1) (asc1 (by omega))]
    refine congrArg (fun b => R.ok (PV.bl b)) ?_
    cases l with
    | nil => rfl
    | cons c r => simp
  have q2 : slP (.str (tx l)) (some 1) none = .ok (.str (tx (l.drop 1))) := by rw [slP_tx _ _ (by omega), cut_drop _ _ (by omega)]; rfl
  have e3 : eqP (.str (tx (figs l))) (.str (Str.ofString "")) = .ok (.bl (figs l).isEmpty) := by
    rw [s_empty, eqP_tx af Asc.nil]
    cases figs l <;> simp
  have e4 := lenP_tx (l := figs l) (by omega)
  have e5 : gtP (.int ((figs l).length : Int)) (.int 20) = .ok (.bl (!decide ((figs l).length ≤ 20))) := by
    rw [gtP_ii]
    refine congrArg (fun b => R.ok (PV.bl b)) ?_
    by_cases h : (figs l).length ≤ 20
    · rw [decide_eq_true h, decide_eq_false (by omega)]; rfl
    · rw [decide_eq_false h, decide_eq_true (by omega)]; rfl
  have lc : lcGo (gN 2) cYes (e2 inS (eVo 2) (eC (.str (Str.ofString "0123456789")))) [.val (.str (tx l)), .val (.str (tx (figs l))), .un] (signsP (tx (figs l))) = .ok (((figs l).map isDig).map PV.bl) := by
    rw [signs_tx]
    rw [lcGo_map (fun q => match q with | .str z => .bl (match tl z with | [c] => isDig c | _ => false) | q => q) _ fun q hq => ?_, List.map_map, List.map_map]
    · rfl
    · obtain ⟨c, _, rfl⟩ := List.mem_map.mp hq
      refine ⟨_, rfl, ?_⟩
      have : inS (.str (tx [c])) (.str (Str.ofString "0123456789")) = .ok (.bl (isDig c)) := by rw [s_digits, inS_tx, isDig_mem]
      simpa [tl_tx] using this
  have e6 := eLc_ok (vs := [2]) (it := iStrP (eVo 1)) (ρ := [.val (.str (tx l)), .val (.str (tx (figs l))), .un]) rfl (by simp) (by rw [signs_tx, List.length_map]; omega) lc
  have e7 : ((figs l).map isDig).all id = (figs l).all isDig := by
    rw [List.all_map]
    rfl
  have e8 := allP_bl ((figs l).map isDig)
  rw [e7] at e8
  obtain ⟨bs, hbs⟩ : ∃ bs, bs = (figs l).map isDig := ⟨_, rfl⟩
  rw [← hbs] at e6 e8
  have s12 : ∀ {r : R PV} (k : Rho → Out), (k [.val (.str (tx l)), .val (.str (tx (figs l))), .un]).res = r → (bSeq (sSet 1 (eV 0)) (bSeq (sIf (tB1 (e2 eqP (eSl slP (eVo 0) oNone (oSome (eC (.int 1)))) (eC (.str "-")))) (bSeq (sSet 1 (eSl slP (eVo 0) (oSome (eC (.int 1))) oNone)) bNil) bNil) k) [.val (.str (tx l)), .un, .un]).res = r := fun {r} k g => by
    refine stp (.str (tx l)) (by simp) ?_
    simp only [List.set_cons_succ, List.set_cons_zero]
    refine stpW (decide (l.head? = some 45)) (.str (tx (l.drop 1))) (.str (tx l)) (.str (tx (figs l))) (by simp [q1, e1]) (fun _ => by simp [q2]) rfl ?_ ?_
    · unfold figs
      by_cases h : l.head? = some 45
      · rw [if_pos h, decide_eq_true h, if_pos rfl, List.drop_one]
      · rw [if_neg h, decide_eq_false h]; rfl
    · simp only [List.set_cons_succ, List.set_cons_zero]
      exact g
  unfold D__law_is_whole
  refine s12 _ ?_
  by_cases h1 : (figs l).isEmpty = false ∧ (figs l).length ≤ 20 ∧ (figs l).all isDig = true
  · obtain ⟨h1, h2, h3⟩ := h1
    refine skp (by simp [e3, h1, e4, e5, h2, e6, e8, h3]) ?_
    obtain ⟨c, r, hc⟩ : ∃ c r, figs l = c :: r := by
      cases hf : figs l with
      | nil => rw [hf] at h1; cases h1
      | cons c r => exact ⟨c, r, rfl⟩
    have e9 : ixP (.str (tx (figs l))) (.int 0) = .ok (.str (tx [c])) := ixP_tx (by omega) (by rw [hc]; rfl) (by omega)
    have e10 : neP (.str (tx [c])) (.str (Str.ofString "0")) = .ok (.bl (!decide (c = 48))) := by
      rw [s_zero, neP_tx (fun d hd => af d (by rw [hc]; rw [List.mem_singleton.mp hd]; exact List.mem_cons_self)) (by intro d hd; rw [List.mem_singleton.mp hd]; omega)]
      simp
    have e11 : eqP (.str (tx l)) (.str (Str.ofString "0")) = .ok (.bl (decide (l = [48]))) := by
      rw [s_zero, eqP_tx ha (by intro d hd; rw [List.mem_singleton.mp hd]; omega)]
    have hd : (figs l).head? = some 48 ↔ c = 48 := by rw [hc]; simp
    have ok : wOk l = (!decide (c = 48) || decide (l = [48])) := by
      unfold wOk numOk
      rw [h1, decide_eq_true (show (figs l).length ≤ 31 by omega), h3, decide_eq_true h2, decide_eq_decide.mpr hd]
      cases decide (c = 48) <;> cases decide (l = [48]) <;> rfl
    rw [ok]
    by_cases h5 : c = 48
    · rw [decide_eq_true h5] at e10 ⊢
      simp [e9, e10, e11]
    · rw [decide_eq_false h5] at e10 ⊢
      simp [e9, e10, e11]
  · have no : wOk l = false := by
      unfold wOk numOk
      by_cases a : (figs l).isEmpty = false
      · by_cases b : (figs l).length ≤ 20
        · have c : (figs l).all isDig = false := by
            cases h : (figs l).all isDig with
            | false => rfl
            | true => exact absurd ⟨a, b, h⟩ h1
          rw [c]; simp
        · rw [decide_eq_false b]; simp
      · have : (figs l).isEmpty = true := by simpa using a
        rw [this]; simp
    rw [no]
    refine ifT ?_ (by simp)
    by_cases a : (figs l).isEmpty = true
    · rw [a] at e3
      simp [e3]
    · have a' : (figs l).isEmpty = false := by simpa using a
      rw [a'] at e3
      by_cases b : (figs l).length ≤ 20
      · have c : (figs l).all isDig = false := by
          cases h : (figs l).all isDig with
          | false => rfl
          | true => exact absurd ⟨a', b, h⟩ h1
        rw [decide_eq_true b] at e5
        rw [c] at e8
        simp only [Bool.not_true, Bool.not_false] at e5 e8
        simp [e3, e4, e5, e6, e8]
      · rw [decide_eq_false b] at e5
        simp only [Bool.not_true, Bool.not_false] at e5
        simp [e3, e4, e5]
theorem whole_int {w : List Nat} (h : wOk w = true) : intS [.str (tx w)] = .ok (.int (numVal w)) := by
  unfold wOk at h
  rw [Bool.and_eq_true] at h
  exact intS_val h.1
theorem par_none {w : List Nat} (h47 : 47 ∉ w) (hl : w.length ≤ 100000) : partP (.str (tx w)) (.str "/") = .ok (.tup [.str (tx w), .str (tx []), .str (tx [])]) := by
  have e := SX.partition_none (a := w) (b := [47]) (by simp) (SX.par_head_none h47)
  rw [s_stroke]
  unfold partP
  dsimp only
  rw [if_pos ⟨by rfl, by rw [tx_len]; exact size_ok (by omega)⟩]
  show R.ok (PV.tup [.str (Txt.partition (SX.S w) (SX.S [47])).1, .str (Txt.partition (SX.S w) (SX.S [47])).2.1, .str (Txt.partition (SX.S w) (SX.S [47])).2.2]) = _
  rw [e]; rfl
theorem l2P (a b : PV) : lstP [a, b] = .ok (.lst [a, b]) := rfl
/-- a word by the law -/
theorem f_law_part_no {w : List Nat} (ha : Asc w) (hl : w.length ≤ 90000) (h : NoPart w) : F__law_part [.str (tx w)] = .ok .non := by
  refine (runF_eq (n := 5) (u := D__law_part)).trans ?_
  show (D__law_part [.val (.str (tx w)), .un, .un, .un, .un]).res = _
  rcases h with ⟨h47, hk⟩ | ⟨a, b, e, h47, hk⟩
  · have pp := par_none h47 (by omega)
    have fw := f_is_whole w ha (by omega)
    rw [hk] at fw
    have em : eM partP (eVo 0) (eC (.str "/")) [.val (.str (tx w)), .un, .un, .un, .un] = .ok (.tup [.str (tx w), .str (tx []), .str (tx [])]) := by
      unfold eM
      rw [eVo0, bind1]
      dsimp only
      rw [eC_eq, bind1, pp]
    unfold D__law_part
    refine stpN (ρ' := [.val (.str (tx w)), .val (.str (tx w)), .val (.str (tx [])), .val (.str (tx [])), .un]) (by simp only [sTo_eq, em, st_ok, gT_eq, gsCons_eq, gsNil_eq, gN_eq, Option.bind_some, List.set_cons_succ, List.set_cons_zero]) ?_
    refine ifT (by simp only [tNt_eq, tB1_eq, eD_eq, aCons_eq, aNil_eq, eVs, eV0, bind1, fw, asB_eq]; rfl) ?_
    simp
  · subst e
    rw [List.length_append, List.length_cons] at hl
    have pp := par_some (a := a) (b := b) h47 (by omega)
    obtain ⟨w, hw⟩ : ∃ w, w = a ++ 47 :: b := ⟨_, rfl⟩
    rw [← hw] at pp ⊢
    have fa := f_is_whole a ha.left (by omega)
    have fb := f_is_whole b (fun c hc => ha c (by simp [hc])) (by omega)
    have em : eM partP (eVo 0) (eC (.str "/")) [.val (.str (tx w)), .un, .un, .un, .un] = .ok (.tup [.str (tx a), .str (tx [47]), .str (tx b)]) := by
      unfold eM
      rw [eVo0, bind1]
      dsimp only
      rw [eC_eq, bind1, pp]
    have q := eqP_tx (a := [47]) (b := []) (fun c hc => by rw [List.mem_singleton.mp hc]; decide) Asc.nil
    rw [← s_empty] at q
    unfold D__law_part
    refine stpN (ρ' := [.val (.str (tx w)), .val (.str (tx a)), .val (.str (tx [47])), .val (.str (tx b)), .un]) (by simp only [sTo_eq, em, st_ok, gT_eq, gsCons_eq, gsNil_eq, gN_eq, Option.bind_some, List.set_cons_succ, List.set_cons_zero]) ?_
    cases h1 : wOk a with
    | false =>
      rw [h1] at fa
      refine ifT (by simp only [tNt_eq, tB1_eq, eD_eq, aCons_eq, aNil_eq, eVs, eV0, bind1, fa, asB_eq]; rfl) ?_
      simp
    | true =>
      rw [h1] at fa
      refine skp (by simp only [tNt_eq, tB1_eq, eD_eq, aCons_eq, aNil_eq, eVs, eV0, bind1, fa, asB_eq]; rfl) ?_
      refine skp (by simp only [tB1_eq, e2_eq, eVos, eVo0, eC_eq, bind1, q, asB_eq]; rfl) ?_
      refine ifT ?_ (by simp)
      cases h2 : wOk b with
      | false =>
        rw [h2] at fb
        simp only [tOr_eq, tNt_eq, tB1_eq, eD_eq, aCons_eq, aNil_eq, eVs, eV0, bind1, fb, asB_eq]
        rfl
      | true =>
        rw [h2] at fb
        have iv := whole_int h2
        have lt : numVal b < 1 := by
          apply Classical.byContradiction
          intro z
          exact hk ⟨h1, h2, by omega⟩
        simp only [tOr_eq, tNt_eq, tB1_eq, e2_eq, eD_eq, aCons_eq, aNil_eq, eVs, eV0, eVos, eVo0, eC_eq, bind1, fb, asB_eq, Bool.not_true, if_neg Bool.false_ne_true, iv, ltP_ii, decide_eq_true lt]
theorem f_law_part {bare : Bool} {a b : Int} (ok : OkR (.part bare a b)) : F__law_part [.str (tx (txR (.part bare a b)))] = .ok (.lst [.str (tx (shT (enR (.part bare a b)))), .int 1]) := by
  obtain ⟨ha, hb, hbz⟩ := ok
  have la := numT_len a (k := 20) (by omega) ha
  have lb := numT_len b (k := 20) (by omega) hbz
  have wa := wOk_numT a ha
  have wb := wOk_numT b hbz
  have fa := f_is_whole _ (numT_asc a) (by omega)
  have fb := f_is_whole _ (numT_asc b) (by omega)
  rw [wa] at fa
  rw [wb] at fb
  have ia := whole_int wa
  have ib := whole_int wb
  rw [numT_val] at ia ib
  refine (runF_eq (n := 5) (u := D__law_part)).trans ?_
  cases bare with
  | true =>
    have e1 : enR (.part true a b) = .part (ftop a 1) (fbot a 1) := rfl
    have t1 : txR (.part true a b) = numT a := rfl
    rw [t1]
    show (D__law_part [.val (.str (tx (numT a))), .un, .un, .un, .un]).res = _
    have sh : shT (enR (.part true a b)) = numT a := by
      rw [e1]
      obtain ⟨r1, r2⟩ := low_uniq (T := a) (B := 1) (t := a) (b := 1) (by decide) (by decide) (by simp) rfl
      unfold shT
      rw [if_pos r2, r1]
    rw [sh]
    have pp := par_none (w := numT a) (numT_free a (.inr (.inr (.inl rfl)))) (by omega)
    have em : eM partP (eVo 0) (eC (.str "/")) [.val (.str (tx (numT a))), .un, .un, .un, .un] = .ok (.tup [.str (tx (numT a)), .str (tx []), .str (tx [])]) := by
      unfold eM
      rw [eVo0, bind1]
      dsimp only
      rw [eC_eq, bind1, pp]
    have q := eqP_tx Asc.nil Asc.nil
    rw [← s_empty] at q
    unfold D__law_part
    refine stpN (ρ' := [.val (.str (tx (numT a))), .val (.str (tx (numT a))), .val (.str (tx [])), .val (.str (tx [])), .un]) (by simp only [sTo_eq, em, st_ok, gT_eq, gsCons_eq, gsNil_eq, gN_eq, Option.bind_some, List.set_cons_succ, List.set_cons_zero]) ?_
    rw [← s_empty]
    refine skp (by simp only [tNt_eq, tB1_eq, eD_eq, aCons_eq, aNil_eq, eVs, eV0, bind1, fa, asB_eq]; rfl) ?_
    refine ifT (by simp only [tB1_eq, e2_eq, eVos, eVo0, eC_eq, bind1, q, asB_eq]; rfl) ?_
    simp [l2P]
  | false =>
    have t1 : txR (.part false a b) = numT a ++ 47 :: numT b := rfl
    have e1 : enR (.part false a b) = .part (ftop a b) (fbot a b) := rfl
    rw [t1, e1]
    have bz : b.natAbs < 2 ^ 8000 := sz_le (show b.natAbs < 2 ^ 67 by omega) (by omega)
    have ff := f_fraction a b (by omega) bz
    have pp := par_some (a := numT a) (b := numT b) (numT_free a (.inr (.inr (.inl rfl)))) (by omega)
    have w20 : W20 (.part (ftop a b) (fbot a b)) := w20_en (x := .part false a b) ⟨ha, hb, hbz⟩
    obtain ⟨A, hA⟩ : ∃ A, A = ftop a b := ⟨_, rfl⟩
    obtain ⟨B, hB⟩ : ∃ B, B = fbot a b := ⟨_, rfl⟩
    rw [← hA, ← hB] at w20 ff ⊢
    have i0 : ixP (fracV A B) (.int 0) = .ok (.int A) := rfl
    have i1 : ixP (fracV A B) (.int 1) = .ok (.int B) := rfl
    have sA := str_num w20.2.2.1
    have sB := str_num w20.2.2.2
    have lA := numT_len A (k := 20) (by omega) w20.2.2.1
    have lB := numT_len B (k := 20) (by omega) w20.2.2.2
    have a1 := addP_tx (a := numT A) (b := [47]) (by simp; omega)
    have a2 := addP_tx (a := numT A ++ [47]) (b := numT B) (by simp; omega)
    obtain ⟨w, hw⟩ : ∃ w, w = numT a ++ 47 :: numT b := ⟨_, rfl⟩
    rw [← hw] at pp ⊢
    show (D__law_part [.val (.str (tx w)), .un, .un, .un, .un]).res = _
    have em : eM partP (eVo 0) (eC (.str "/")) [.val (.str (tx w)), .un, .un, .un, .un] = .ok (.tup [.str (tx (numT a)), .str (tx [47]), .str (tx (numT b))]) := by
      unfold eM
      rw [eVo0, bind1]
      dsimp only
      rw [eC_eq, bind1, pp]
    have q := eqP_tx (a := [47]) (b := []) (fun c hc => by rw [List.mem_singleton.mp hc]; decide) Asc.nil
    rw [← s_empty] at q
    have lt : ¬ (b < 1) := by omega
    unfold D__law_part
    refine stpN (ρ' := [.val (.str (tx w)), .val (.str (tx (numT a))), .val (.str (tx [47])), .val (.str (tx (numT b))), .un]) (by simp only [sTo_eq, em, st_ok, gT_eq, gsCons_eq, gsNil_eq, gN_eq, Option.bind_some, List.set_cons_succ, List.set_cons_zero]) ?_
    refine skp (by simp only [tNt_eq, tB1_eq, eD_eq, aCons_eq, aNil_eq, eVs, eV0, bind1, fa, asB_eq]; rfl) ?_
    refine skp (by simp only [tB1_eq, e2_eq, eVos, eVo0, eC_eq, bind1, q, asB_eq]; rfl) ?_
    refine skp (by simp only [tOr_eq, tNt_eq, tB1_eq, e2_eq, eD_eq, aCons_eq, aNil_eq, eVs, eV0, eVos, eVo0, eC_eq, bind1, fb, asB_eq, Bool.not_true, if_neg Bool.false_ne_true, ib, ltP_ii, decide_eq_false lt]) ?_
    refine stp (fracV A B) (by simp only [eD_eq, aCons_eq, aNil_eq, eVos, eVo0, bind1, ia, ib, ff]) ?_
    simp only [List.set_cons_succ, List.set_cons_zero]
    by_cases c : B = 1
    · have c' : (B == 1) = true := by simpa using c
      have e : shT (.part A B) = numT A := by unfold shT; rw [if_pos c]
      rw [e]
      refine ifT (by simp only [tB1_eq, e2_eq, eVos, eVo0, eC_eq, bind1, i1, eqP_ii, c', asB_eq]) ?_
      simp only [bSeq_eq, sRet_eq, eD_eq, aCons_eq, aNil_eq, e2_eq, eVos, eVo0, eC_eq, bind1, i0, sA, l2P, st_ok, then_ret, res_ret]
    · have c' : (B == 1) = false := by simpa using c
      have e : shT (.part A B) = numT A ++ [47] ++ numT B := by unfold shT; rw [if_neg c]; simp
      rw [e]
      refine skp (by simp only [tB1_eq, e2_eq, eVos, eVo0, eC_eq, bind1, i1, eqP_ii, c', asB_eq]) ?_
      simp only [bSeq_eq, sRet_eq, eD_eq, aCons_eq, aNil_eq, e2_eq, eVos, eVo0, eC_eq, bind1, i0, i1, sA, sB, s_stroke, a1, a2, l2P, st_ok, then_ret, res_ret]
def EndL (B : List Nat) : Prop := B = [] ∨ ∃ c B', B = c :: B' ∧ (c = 32 ∨ c = 40 ∨ c = 41)
inductive It where
  | opn
  | sgn (s : List Nat)
  | term (r : RT)
def bareI : RT → Bool
  | .part bare a b => decide (shT (enR (.part bare a b)) = txR (.part bare a b))
  | _ => false
def encI : It → PV
  | .opn => .str (tx [40])
  | .sgn s => .str (tx (32 :: s))
  | .term r => .lst [.str (tx (shT (enR r))), .int (wtT (enR r)), .bl (bareI r)]
def srcI : It → List Nat
  | .opn => [40]
  | .sgn s => 32 :: s
  | .term r => txR r
/-- bottom first -/
def stV (st : List It) : List PV := st.reverse.map encI
def src (st : List It) : List Nat := (st.reverse.map srcI).flatten
theorem stV_cons (a : It) (st : List It) : stV (a :: st) = stV st ++ [encI a] := by unfold stV; rw [List.reverse_cons, List.map_append]; rfl
theorem src_cons (a : It) (st : List It) : src (a :: st) = src st ++ srcI a := by unfold src; rw [List.reverse_cons, List.map_append, List.flatten_append]; simp
def powI (x y : RT) : Option RT := match shT (enR y) with
  | [c] => if 49 ≤ c ∧ c ≤ 57 ∧ bareI y = true then some (.pow x (c - 48)) else none
  | _ => none
def mkI (b : It) (x y : RT) : Option RT := match b with
  | .sgn s => if s = [43, 32] then some (.two 0 x y) else if s = [45, 32] then some (.two 1 x y) else if s = [42, 32] then some (.two 2 x y) else if s = [58, 32] then some (.two 3 x y) else if s = [94, 32] then powI x y else none
  | _ => none
def shutI (st : List It) : Option (List It) := match st with
  | .term y :: b :: .term x :: .opn :: st' => match mkI b x y with
    | some r => some (.term r :: st')
    | none => none
  | _ => none
def fin (st : List It) : Option RT := match st with
  | [.term r] => if wtT (enR r) ≤ 50 then some r else none
  | _ => none
inductive Runs : List It → List Nat → Int → Option RT → Prop where
  | stop (st : List It) (k : Int) : Runs st [] k (fin st)
  | deep (st : List It) (rest : List Nat) (k : Int) : rest ≠ [] → 10 < k → Runs st rest k none
  | opn {st : List It} {rest : List Nat} {k : Int} {res : Option RT} : k ≤ 10 → Runs (.opn :: st) rest (k + 1) res → Runs st (40 :: rest) k res
  | shut {st st' : List It} {rest : List Nat} {k : Int} {res : Option RT} : k ≤ 10 → shutI st = some st' → Runs st' rest (k - 1) res → Runs st (41 :: rest) k res
  | bad {st : List It} {rest : List Nat} {k : Int} : k ≤ 10 → shutI st = none → Runs st (41 :: rest) k none
  | sgn {st : List It} {rest : List Nat} {k : Int} {res : Option RT} : k ≤ 10 → Runs (.sgn (rest.take 2) :: st) (rest.drop 2) k res → Runs st (32 :: rest) k res
  | word {st : List It} {w B : List Nat} {k : Int} {bare : Bool} {a b : Int} {res : Option RT} : k ≤ 10 → OkR (.part bare a b) → w = txR (.part bare a b) → (∀ c ∈ w, c ≠ 32 ∧ c ≠ 40 ∧ c ≠ 41) → EndL B → Runs (.term (.part bare a b) :: st) B k res → Runs st (w ++ B) k res
  | badw {st : List It} {w B : List Nat} {k : Int} : k ≤ 10 → w ≠ [] → NoPart w → (∀ c ∈ w, c ≠ 32 ∧ c ≠ 40 ∧ c ≠ 41) → EndL B → Runs st (w ++ B) k none
theorem word_cutL : ∀ C : List Nat, ∃ w B, C = w ++ B ∧ EndL B ∧ ∀ c ∈ w, c ≠ 32 ∧ c ≠ 40 ∧ c ≠ 41
  | [] => ⟨[], [], rfl, .inl rfl, fun _ z => nomatch z⟩
  | c :: C => by
    by_cases h : c = 32 ∨ c = 40 ∨ c = 41
    · exact ⟨[], c :: C, rfl, .inr ⟨c, C, rfl, h⟩, fun _ z => nomatch z⟩
    · obtain ⟨w, B, e, hB, hw⟩ := word_cutL C
      exact ⟨c :: w, B, by rw [e]; rfl, hB, fun d hd => (List.mem_cons.mp hd).elim (fun z => by rw [z]; omega) (hw d)⟩
/-- it comes to an end -/
theorem runs_all : ∀ (n : Nat) (st : List It) (rest : List Nat) (k : Int), rest.length ≤ n → ∃ res, Runs st rest k res
  | n, st, [], k, _ => ⟨_, .stop st k⟩
  | 0, st, c :: rest, k, h => absurd h (by simp)
  | n + 1, st, c :: rest, k, h => by
    rw [List.length_cons] at h
    by_cases k10 : k ≤ 10
    · by_cases h40 : c = 40
      · subst h40
        obtain ⟨res, hr⟩ := runs_all n (.opn :: st) rest (k + 1) (by omega)
        exact ⟨res, .opn k10 hr⟩
      by_cases h41 : c = 41
      · subst h41
        cases hs : shutI st with
        | none => exact ⟨none, .bad k10 hs⟩
        | some st' =>
          obtain ⟨res, hr⟩ := runs_all n st' rest (k - 1) (by omega)
          exact ⟨res, .shut k10 hs hr⟩
      by_cases h32 : c = 32
      · subst h32
        obtain ⟨res, hr⟩ := runs_all n (.sgn (rest.take 2) :: st) (rest.drop 2) k (by rw [List.length_drop]; omega)
        exact ⟨res, .sgn k10 hr⟩
      obtain ⟨w, B, e, hB, hw⟩ := word_cutL (c :: rest)
      cases w with
      | nil =>
        exfalso
        rw [List.nil_append] at e
        rcases hB with z | ⟨d, B', z, hd⟩
        · rw [z] at e; cases e
        · rw [z] at e; injection e with e _; omega
      | cons d w' =>
        have hl : B.length ≤ n := by
          have := congrArg List.length e
          simp at this
          omega
        rw [e]
        rcases part_or (d :: w') with ⟨bare, a, b, ok, ew⟩ | no
        · obtain ⟨res, hr⟩ := runs_all n (.term (.part bare a b) :: st) B k hl
          exact ⟨res, .word k10 ok ew hw hB hr⟩
        · exact ⟨none, .badw k10 (fun z => nomatch z) no hw hB⟩
    · exact ⟨none, .deep st _ k (fun z => nomatch z) (by omega)⟩
def opens : List It → Nat
  | [] => 0
  | .opn :: st => opens st + 1
  | _ :: st => opens st
/-- what the stack's terms are -/
def OkS : List It → Prop
  | [] => True
  | .opn :: st => OkS st
  | .sgn _ :: st => OkS st
  | .term r :: st => OkR r ∧ opens st + depR r ≤ 10 ∧ OkS st
theorem powI_some {x y r : RT} (h : powI x y = some r) : ∃ n, r = .pow x n ∧ 1 ≤ n ∧ n ≤ 9 ∧ txR y = [48 + n] := by
  unfold powI at h
  split at h
  · rename_i c hc
    split at h
    · rename_i hh
      injection h with h
      refine ⟨c - 48, h.symm, by omega, by omega, ?_⟩
      obtain ⟨h1, h2, h3⟩ := hh
      have : txR y = shT (enR y) := by
        cases y with
        | part bare a b => exact (of_decide_eq_true h3).symm
        | two k x y => cases h3
        | pow x n => cases h3
      rw [this, hc]
      exact congrArg (fun z => [z]) (by omega)
    · cases h
  · cases h
theorem mkI_some {b : It} {x y r : RT} (h : mkI b x y = some r) (hx : OkR x) (hy : OkR y) : OkR r ∧ depR r ≤ 1 + max (depR x) (depR y) ∧ txR r = 40 :: (txR x ++ (srcI b ++ (txR y ++ [41]))) := by
  cases b with
  | opn => cases h
  | term r => cases h
  | sgn s =>
    unfold mkI at h
    dsimp only at h
    split at h
    · rename_i e; subst e; cases h
      exact ⟨⟨hx, hy⟩, Nat.le_refl _, rfl⟩
    split at h
    · rename_i e; subst e; cases h
      exact ⟨⟨hx, hy⟩, Nat.le_refl _, rfl⟩
    split at h
    · rename_i e; subst e; cases h
      exact ⟨⟨hx, hy⟩, Nat.le_refl _, rfl⟩
    split at h
    · rename_i e; subst e; cases h
      exact ⟨⟨hx, hy⟩, Nat.le_refl _, rfl⟩
    split at h
    · rename_i e; subst e
      obtain ⟨n, rfl, n1, n9, hn⟩ := powI_some h
      refine ⟨⟨hx, n1, n9⟩, by show 1 + depR x ≤ _; omega, ?_⟩
      rw [hn]; rfl
    · cases h
theorem shutI_some {st st' : List It} (h : shutI st = some st') : ∃ b x y r st0, st = .term y :: b :: .term x :: .opn :: st0 ∧ mkI b x y = some r ∧ st' = .term r :: st0 := by
  unfold shutI at h
  split at h
  · rename_i y b x st0
    split at h
    · rename_i r hr
      injection h with h
      exact ⟨b, x, y, r, st0, rfl, hr, h.symm⟩
    · cases h
  · cases h
theorem mkI_b {b : It} {x y r : RT} (h : mkI b x y = some r) : opens [b] = 0 ∧ ∀ st, opens (b :: st) = opens st ∧ (OkS (b :: st) → OkS st) := by
  cases b with
  | opn => cases h
  | term r => cases h
  | sgn s => exact ⟨rfl, fun st => ⟨rfl, id⟩⟩
theorem runs_sound {st : List It} {rest : List Nat} {k : Int} {res : Option RT} (h : Runs st rest k res) : (k : Int) = opens st → OkS st → ∀ r, res = some r → src st ++ rest = txR r ∧ OkR r ∧ depR r ≤ 10 ∧ wtT (enR r) ≤ 50 := by
  induction h with
  | stop st k =>
    intro hk ho r hr
    unfold fin at hr
    split at hr
    · rename_i r'
      split at hr
      · rename_i hw
        injection hr with hr
        subst hr
        obtain ⟨o1, o2, _⟩ := ho
        have e0 : opens [] = 0 := rfl
        rw [e0] at o2
        refine ⟨?_, o1, by omega, hw⟩
        unfold src; simp [srcI]
      · cases hr
    · cases hr
  | deep => intro _ _ r hr; cases hr
  | opn k10 _ ih =>
    intro hk ho r hr
    have := ih (by show _ = ((opens _ + 1 : Nat) : Int); omega) ho r hr
    rw [src_cons] at this
    rw [← this.1]
    refine ⟨?_, this.2⟩
    simp [srcI]
  | shut k10 hs _ ih =>
    intro hk ho r hr
    obtain ⟨b, x, y, r0, st0, rfl, hm, rfl⟩ := shutI_some hs
    obtain ⟨m0, m1⟩ := mkI_b hm
    obtain ⟨oy, dy, ho⟩ := ho
    have ho := (m1 _).2 ho
    obtain ⟨ox, dx, ho⟩ := ho
    have ho : OkS st0 := ho
    have e1 : opens (.term y :: b :: .term x :: .opn :: st0) = opens st0 + 1 := by show opens (b :: .term x :: .opn :: st0) = _; rw [(m1 _).1]; rfl
    have e2 : opens (b :: .term x :: .opn :: st0) = opens st0 + 1 := by rw [(m1 _).1]; rfl
    have e3 : opens (.opn :: st0) = opens st0 + 1 := rfl
    rw [e1] at hk
    rw [e2] at dy
    rw [e3] at dx
    obtain ⟨q1, q2, q3⟩ := mkI_some hm ox oy
    have := ih (by show _ = ((opens st0 : Nat) : Int); omega) ⟨q1, by omega, ho⟩ r hr
    rw [← this.1]
    refine ⟨?_, this.2⟩
    rw [src_cons, src_cons, src_cons, src_cons, src_cons]
    have : srcI (.term r0) = txR r0 := rfl
    rw [this, q3]
    simp [srcI]
  | bad => intro _ _ r hr; cases hr
  | @sgn st rest k res k10 _ ih =>
    intro hk ho r hr
    have := ih hk ho r hr
    rw [src_cons] at this
    rw [← this.1]
    refine ⟨?_, this.2⟩
    simp [srcI]
  | @word st w B k bare a b res k10 ok ew hw hB _ ih =>
    intro hk ho r hr
    have := ih hk ⟨ok, by show _ + 0 ≤ 10; omega, ho⟩ r hr
    rw [src_cons] at this
    rw [← this.1]
    refine ⟨?_, this.2⟩
    rw [ew]
    simp [srcI]
  | badw => intro _ _ r hr; cases hr
theorem bare_digit (n : Nat) (h1 : 1 ≤ n) (h9 : n ≤ 9) : OkR (.part true n 1) ∧ txR (.part true n 1) = [48 + n] ∧ shT (enR (.part true n 1)) = [48 + n] := by
  have e : numT (n : Int) = [48 + n] := numT_1 n h9
  refine ⟨⟨by omega, by omega, by decide⟩, e, ?_⟩
  obtain ⟨r1, r2⟩ := low_uniq (T := (n : Int)) (B := 1) (t := (n : Int)) (b := 1) (by decide) (by decide) (by simp) rfl
  show shT (.part (ftop (n : Int) 1) (fbot (n : Int) 1)) = _
  unfold shT
  rw [if_pos r2, r1, e]
theorem txR_free40 (bare : Bool) (a b : Int) : ∀ c ∈ txR (.part bare a b), c ≠ 32 ∧ c ≠ 40 ∧ c ≠ 41 := by
  have f : ∀ i : Int, ∀ c ∈ numT i, c ≠ 32 ∧ c ≠ 40 ∧ c ≠ 41 := fun i c hc => by
    refine ⟨fun z => ?_, fun z => ?_, fun z => ?_⟩ <;> subst z
    · exact numT_free i (.inl (by omega)) hc
    · exact numT_free i (.inl (by omega)) hc
    · exact numT_free i (.inl (by omega)) hc
  cases bare with
  | true => exact f a
  | false =>
    intro c hc
    have hc : c ∈ numT a ++ 47 :: numT b := hc
    rcases List.mem_append.mp hc with z | z
    · exact f a c z
    · rcases List.mem_cons.mp z with z | z
      · omega
      · exact f b c z
/-- a term's text is read off -/
theorem runs_term : ∀ {r : RT}, OkR r → ∀ {k : Int}, k + depR r ≤ 10 → ∃ r', wtT (enR r') = wtT (enR r) ∧ ∀ {st : List It} {B : List Nat} {res : Option RT}, EndL B → Runs (.term r' :: st) B k res → Runs st (txR r ++ B) k res
  | .part bare a b, ok, k, hk => by
    have hk : k + (0 : Nat) ≤ 10 := hk
    exact ⟨.part bare a b, rfl, fun hB h => .word (by omega) ok rfl (txR_free40 bare a b) hB h⟩
  | .two j x y, ok, k, hk => by
    have hk : k + ((1 + max (depR x) (depR y) : Nat) : Int) ≤ 10 := hk
    obtain ⟨x', wx, hx⟩ := runs_term ok.1 (k := k + 1) (by omega)
    obtain ⟨y', wy, hy⟩ := runs_term ok.2 (k := k + 1) (by omega)
    have hm : ∃ j', mkI (.sgn [sg j, 32]) x' y' = some (.two j' x' y') := by
      match j with
      | 0 => exact ⟨0, rfl⟩
      | 1 => exact ⟨1, rfl⟩
      | 2 => exact ⟨2, rfl⟩
      | j + 3 => exact ⟨3, rfl⟩
    obtain ⟨j', hm⟩ := hm
    refine ⟨.two j' x' y', by show wtT (enR x') + wtT (enR y') = wtT (enR x) + wtT (enR y); rw [wx, wy], fun {st B res} hB h => ?_⟩
    have hs : shutI (.term y' :: .sgn [sg j, 32] :: .term x' :: .opn :: st) = some (.term (.two j' x' y') :: st) := by
      unfold shutI; dsimp only; rw [hm]
    have h1 : Runs (.term y' :: .sgn [sg j, 32] :: .term x' :: .opn :: st) (41 :: B) (k + 1) res := .shut (by omega) hs (by rw [Int.add_sub_cancel]; exact h)
    have h2 := hy (.inr ⟨41, B, rfl, .inr (.inr rfl)⟩) h1
    have h3 : Runs (.term x' :: .opn :: st) (32 :: sg j :: 32 :: (txR y ++ 41 :: B)) (k + 1) res := .sgn (by omega) h2
    have h4 := hx (.inr ⟨32, _, rfl, .inl rfl⟩) h3
    have h5 := Runs.opn (by omega) h4
    have e : txR (.two j x y) ++ B = 40 :: (txR x ++ 32 :: sg j :: 32 :: (txR y ++ 41 :: B)) := by
      show 40 :: (txR x ++ (32 :: sg j :: 32 :: (txR y ++ [41]))) ++ B = _
      simp
    rw [e]; exact h5
  | .pow x n, ok, k, hk => by
    have hk : k + ((1 + depR x : Nat) : Int) ≤ 10 := hk
    obtain ⟨x', wx, hx⟩ := runs_term ok.1 (k := k + 1) (by omega)
    obtain ⟨d1, d2, d3⟩ := bare_digit n ok.2.1 ok.2.2
    have n1 := ok.2.1
    have n9 := ok.2.2
    have hm : mkI (.sgn [94, 32]) x' (.part true n 1) = some (.pow x' n) := by
      show powI x' (.part true n 1) = _
      unfold powI
      rw [d3]
      dsimp only
      rw [if_pos ⟨by omega, by omega, decide_eq_true (by rw [d3, d2])⟩, Nat.add_sub_cancel_left]
    refine ⟨.pow x' n, by show n * wtT (enR x') = n * wtT (enR x); rw [wx], fun {st B res} hB h => ?_⟩
    have hs : shutI (.term (.part true n 1) :: .sgn [94, 32] :: .term x' :: .opn :: st) = some (.term (.pow x' n) :: st) := by
      unfold shutI; dsimp only; rw [hm]
    have h1 : Runs (.term (.part true n 1) :: .sgn [94, 32] :: .term x' :: .opn :: st) (41 :: B) (k + 1) res := .shut (by omega) hs (by rw [Int.add_sub_cancel]; exact h)
    have h2 : Runs (.sgn [94, 32] :: .term x' :: .opn :: st) (txR (.part true n 1) ++ 41 :: B) (k + 1) res := .word (by omega) d1 rfl (txR_free40 true n 1) (.inr ⟨41, B, rfl, .inr (.inr rfl)⟩) h1
    rw [d2] at h2
    have h3 : Runs (.term x' :: .opn :: st) (32 :: 94 :: 32 :: ([48 + n] ++ 41 :: B)) (k + 1) res := .sgn (by omega) h2
    have h4 := hx (.inr ⟨32, _, rfl, .inl rfl⟩) h3
    have h5 := Runs.opn (by omega) h4
    have e : txR (.pow x n) ++ B = 40 :: (txR x ++ 32 :: 94 :: 32 :: ([48 + n] ++ 41 :: B)) := by
      show 40 :: (txR x ++ (32 :: 94 :: 32 :: (48 + n) :: [41])) ++ B = _
      simp
    rw [e]; exact h5
theorem runs_whole {r : RT} (ok : OkR r) (hd : depR r ≤ 10) (hw : wtT (enR r) ≤ 50) : ∃ r', Runs [] (txR r) 0 (some r') := by
  obtain ⟨r', wr, h⟩ := runs_term ok (k := 0) (by omega)
  have s := Runs.stop [.term r'] 0
  have e : fin [.term r'] = some r' := by unfold fin; dsimp only; rw [if_pos (by omega)]
  rw [e] at s
  have := h (.inl rfl) s
  rw [List.append_nil] at this
  exact ⟨r', this⟩
theorem s_endsL : Str.ofString " ()" = tx [32, 40, 41] := by decide +kernel
theorem word_runL (L : List Nat) (hl : L.length ≤ 1000000) (B : List Nat) (hB : EndL B) : ∀ (v u : List Nat), L = u ++ (v ++ B) → (∀ c ∈ v, c ≠ 32 ∧ c ≠ 40 ∧ c ≠ 41) →
    sWh (tAn (tB1 (e2 ltP (eVo 1) (eD lenP (aCons (eVo 0) aNil)))) (tB1 (e2 notInS (e2 ixP (eVo 0) (eVo 1)) (eC (.str " ()"))))) (bSeq (sSet 1 (e2 addP (eVo 1) (eC (.int 1)))) bNil) [.val (.str (tx L)), .val (.int (u.length : Int))] = .next [.val (.str (tx L)), .val (.int ((u.length + v.length : Nat) : Int))]
  | [], u, hL, _ => by
    have ln := lenP_tx hl
    have lL : L.length = u.length + B.length := by rw [hL]; simp
    rw [sWh_eq]
    rcases hB with rfl | ⟨c, B', rfl, hc⟩
    · have lt : ¬ ((u.length : Int) < (L.length : Int)) := by rw [lL]; simp
      simp only [tAn_eq, tB1_eq, e2_eq, eD_eq, aCons_eq, aNil_eq, eVos, eVo0, bind1, ln, ltP_ii, decide_eq_false lt, asB_eq, if_neg Bool.false_ne_true, stB_ok]
      rfl
    · have lt : (u.length : Int) < (L.length : Int) := by rw [lL, List.length_cons]; omega
      have ix := ixP_tx (l := L) (k := (u.length : Int)) (c := c) (by omega) (by
        rw [Int.toNat_natCast, hL, List.nil_append, List.getElem?_append_right (Nat.le_refl _), Nat.sub_self]; rfl) hl
      have ni := notInS_tx c [32, 40, 41]
      have nf : (!decide (c ∈ [32, 40, 41])) = false := by rcases hc with rfl | rfl | rfl <;> decide
      rw [nf] at ni
      simp only [tAn_eq, tB1_eq, e2_eq, eD_eq, aCons_eq, aNil_eq, eVos, eVo0, eC_eq, bind1, ln, ltP_ii, decide_eq_true lt, asB_eq, if_true, ix, s_endsL, ni, if_neg Bool.false_ne_true, stB_ok]
      rfl
  | c :: v, u, hL, hv => by
    have ln := lenP_tx hl
    have lL : L.length = u.length + (v.length + 1) + B.length := by rw [hL]; simp; omega
    have lt : (u.length : Int) < (L.length : Int) := by rw [lL]; omega
    have ix := ixP_tx (l := L) (k := (u.length : Int)) (c := c) (by omega) (by
      rw [Int.toNat_natCast, hL, List.getElem?_append_right (Nat.le_refl _), Nat.sub_self]; rfl) hl
    have ni := notInS_tx c [32, 40, 41]
    have hc := hv c List.mem_cons_self
    have nf : (!decide (c ∈ [32, 40, 41])) = true := by
      rw [decide_eq_false]; rfl
      simp
      exact hc
    rw [nf] at ni
    have ih := word_runL L hl B hB v (u ++ [c]) (by rw [hL]; simp) (fun z hz => hv z (List.mem_cons_of_mem _ hz))
    rw [List.length_append, List.length_singleton] at ih
    rw [sWh_eq]
    simp only [tAn_eq, tB1_eq, e2_eq, eD_eq, aCons_eq, aNil_eq, eVos, eVo0, eC_eq, bind1, ln, ltP_ii, decide_eq_true lt, asB_eq, if_true, ix, s_endsL, ni]
    have bd : bSeq (sSet 1 (e2 addP (eVo 1) (eC (.int 1)))) bNil [.val (.str (tx L)), .val (.int (u.length : Int))] = .next [.val (.str (tx L)), .val (.int ((u.length + 1 : Nat) : Int))] := by
      simp
    rw [bd]
    rw [List.length_cons, show u.length + (v.length + 1) = u.length + 1 + v.length by omega]
    exact ih
theorem f_law_word {w B : List Nat} (hl : (w ++ B).length ≤ 1000000) (hB : EndL B) (hw : ∀ c ∈ w, c ≠ 32 ∧ c ≠ 40 ∧ c ≠ 41) : F__law_word [.str (tx (w ++ B))] = .ok (.str (tx w)) := by
  refine (runF_eq (n := 2) (u := D__law_word)).trans ?_
  show (D__law_word [.val (.str (tx (w ++ B))), .un]).res = _
  have r := word_runL (w ++ B) hl B hB w [] rfl hw
  rw [List.length_nil, Nat.zero_add] at r
  have sl : slP (.str (tx (w ++ B))) none (some (w.length : Int)) = .ok (.str (tx w)) := by
    rw [slP_tx _ _ hl, cut_take _ _ (by omega), Int.toNat_natCast, List.take_left']
    rfl
  unfold D__law_word
  refine stp (.int 0) (by simp) ?_
  simp only [List.set_cons_succ, List.set_cons_zero]
  refine stpN r ?_
  simp only [bSeq_eq, sRet_eq, eSl_eq, oNone_eq, oSome_eq, asI_eq, eVos, eVo0, eVs, eV0, bind1, sl, st_ok, then_ret, res_ret]
def isOpn : It → Bool
  | .opn => true
  | _ => false
def isTm : It → Bool
  | .term _ => true
  | _ => false
/-- what is known of the stack's things -/
def GdI : It → Prop
  | .opn => True
  | .sgn s => Asc s ∧ s.length ≤ 2
  | .term r => OkR r ∧ (txR r).length ≤ 1000
theorem sh_asc {r : RT} (h : OkR r) : Asc (shT (enR r)) := by rw [← tx_rT]; exact txR_asc _ (ok_rT (w20_en h))
theorem sh_len : ∀ {r : RT}, OkR r → (shT (enR r)).length ≤ 43 * (txR r).length
  | .part true a b, h => by
    have := numT_pos a
    have l := numT_len a (k := 20) (by omega) h.1
    have w := w20_en h
    have w : W20 (.part (ftop a 1) (fbot a 1)) := w
    have lA := numT_len _ (k := 20) (by omega) w.2.2.1
    have lB := numT_len _ (k := 20) (by omega) w.2.2.2
    show (shT (.part (ftop a 1) (fbot a 1))).length ≤ 43 * (numT a).length
    unfold shT
    split
    · omega
    · rw [List.length_append, List.length_cons]; omega
  | .part false a b, h => by
    have w := w20_en h
    have w : W20 (.part (ftop a b) (fbot a b)) := w
    have lA := numT_len _ (k := 20) (by omega) w.2.2.1
    have lB := numT_len _ (k := 20) (by omega) w.2.2.2
    show (shT (.part (ftop a b) (fbot a b))).length ≤ 43 * (numT a ++ 47 :: numT b).length
    rw [List.length_append, List.length_cons]
    unfold shT
    split
    · omega
    · rw [List.length_append, List.length_cons]; omega
  | .two k x y, h => by
    have a := sh_len h.1
    have b := sh_len h.2
    show (40 :: (shT (enR x) ++ (32 :: sg k :: 32 :: (shT (enR y) ++ [41])))).length ≤ 43 * (40 :: (txR x ++ (32 :: sg k :: 32 :: (txR y ++ [41])))).length
    simp only [List.length_cons, List.length_append, List.length_nil]
    omega
  | .pow x n, h => by
    have a := sh_len h.1
    show (40 :: (shT (enR x) ++ (32 :: 94 :: 32 :: (48 + n) :: [41]))).length ≤ 43 * (40 :: (txR x ++ (32 :: 94 :: 32 :: (48 + n) :: [41]))).length
    simp only [List.length_cons, List.length_append, List.length_nil]
    omega
theorem wt10 : ∀ {x : RT}, OkR x → wtT (enR x) ≤ 10 ^ (txR x).length
  | .part true a b, h => show 1 ≤ 10 ^ _ from Nat.pow_pos (by omega)
  | .part false a b, h => show 1 ≤ 10 ^ _ from Nat.pow_pos (by omega)
  | .two k x y, h => by
    have i1 := wt10 h.1
    have i2 := wt10 h.2
    show wtT (enR x) + wtT (enR y) ≤ 10 ^ (40 :: (txR x ++ (32 :: sg k :: 32 :: (txR y ++ [41])))).length
    have p1 : (10 : Nat) ^ (txR x).length ≤ 10 ^ ((txR x).length + (txR y).length) := Nat.pow_le_pow_right (by omega) (by omega)
    have p2 : (10 : Nat) ^ (txR y).length ≤ 10 ^ ((txR x).length + (txR y).length) := Nat.pow_le_pow_right (by omega) (by omega)
    have p3 : (10 : Nat) ^ ((txR x).length + (txR y).length + 1) ≤ 10 ^ (40 :: (txR x ++ (32 :: sg k :: 32 :: (txR y ++ [41])))).length := Nat.pow_le_pow_right (by omega) (by simp; omega)
    rw [Nat.pow_succ] at p3
    omega
  | .pow x n, h => by
    have i1 := wt10 h.1
    have n9 := h.2.2
    show n * wtT (enR x) ≤ 10 ^ (40 :: (txR x ++ (32 :: 94 :: 32 :: (48 + n) :: [41]))).length
    have p3 : (10 : Nat) ^ ((txR x).length + 1) ≤ 10 ^ (40 :: (txR x ++ (32 :: 94 :: 32 :: (48 + n) :: [41]))).length := Nat.pow_le_pow_right (by omega) (by simp)
    rw [Nat.pow_succ] at p3
    have := Nat.mul_le_mul n9 i1
    omega
theorem p1000 : (10 : Nat) ^ 1000 < 2 ^ 4000 := by decide +kernel
theorem wt_sz {x : RT} (h : OkR x) (hl : (txR x).length ≤ 1000) : ((wtT (enR x) : Nat) : Int).natAbs < 2 ^ 4000 := by
  rw [Int.natAbs_natCast]
  exact Nat.lt_of_le_of_lt (Nat.le_trans (wt10 h) (Nat.pow_le_pow_right (by omega) hl)) p1000
theorem okd_term {r : RT} (h : OkR r) : okD 30 (encI (.term r)) = true := by
  show ([PV.str (tx (shT (enR r))), PV.int (wtT (enR r)), PV.bl (bareI r)].all (okD 29)) = true
  rw [List.all_cons, okD_str, strOk_tx (sh_asc h)]; rfl
theorem eq_ls (l : List PV) (s : Str) : eqV' (.lst l) (.str s) = false := by simp only [eqV']
theorem eq_sl (l : List PV) (s : Str) : eqV' (.str s) (.lst l) = false := by simp only [eqV']
theorem ne_opn {d : It} (g : GdI d) : neP (encI d) (.str "(") = .ok (.bl (!isOpn d)) := by
  rw [s_open]
  cases d with
  | opn => exact (neP_tx (asc1 (by omega)) (asc1 (by omega))).trans (by rfl)
  | sgn s =>
    rw [show encI (.sgn s) = .str (tx (32 :: s)) from rfl, neP_tx (Asc.cons (by omega) g.1) (asc1 (by omega)), decide_eq_false (fun z => by injection z with z _; omega)]
    rfl
  | term r =>
    rw [neP_ok (okd_term g.1) (by rw [okD_str]; exact strOk_tx (asc1 (by omega)))]
    show R.ok (PV.bl (!eqV' (.lst _) (.str _))) = _
    rw [eq_ls]; rfl
theorem isi_tm (c : It) : isiP "list" (encI c) = .ok (.bl (isTm c)) := by cases c <;> rfl
def isSg (s : List Nat) : Bool := decide (s = [43, 32]) || decide (s = [45, 32]) || decide (s = [42, 32]) || decide (s = [58, 32]) || decide (s = [94, 32])
def isSgI : It → Bool
  | .sgn s => isSg s
  | _ => false
theorem not_sg {b : It} (g : GdI b) : notInP (encI b) (.lst [.str " + ", .str " - ", .str " * ", .str " : ", .str " ^ "]) = .ok (.bl (!isSgI b)) := by
  rw [s_plus, s_minus, s_star, s_col3, s_hat]
  have ok5 : okD 30 (.lst [.str (tx [32, 43, 32]), .str (tx [32, 45, 32]), .str (tx [32, 42, 32]), .str (tx [32, 58, 32]), .str (tx [32, 94, 32])]) = true := by
    show ([PV.str (tx [32, 43, 32]), .str (tx [32, 45, 32]), .str (tx [32, 42, 32]), .str (tx [32, 58, 32]), .str (tx [32, 94, 32])].all (okD 29)) = true
    simp only [List.all_cons, List.all_nil, okD_str, strOk_tx (asc3 (show 43 < 128 by omega)), strOk_tx (asc3 (show 45 < 128 by omega)), strOk_tx (asc3 (show 42 < 128 by omega)), strOk_tx (asc3 (show 58 < 128 by omega)), strOk_tx (asc3 (show 94 < 128 by omega)), Bool.and_self]
  unfold notInP asQ
  dsimp only
  cases b with
  | opn =>
    rw [if_pos (by rfl)]
    refine congrArg (fun b => R.ok (PV.bl b)) ?_
    show (!_) = !false
    refine congrArg not ?_
    rw [show encI .opn = .str (tx [40]) from rfl]
    simp only [List.any_cons, List.any_nil, eqV_ss, tx_eq]
    decide
  | term r =>
    rw [if_pos (by rw [okd_term g.1, ok5]; simp; right; rfl)]
    refine congrArg (fun b => R.ok (PV.bl b)) ?_
    show (!_) = !false
    refine congrArg not ?_
    show ([PV.str (tx [32, 43, 32]), .str (tx [32, 45, 32]), .str (tx [32, 42, 32]), .str (tx [32, 58, 32]), .str (tx [32, 94, 32])].any fun y => eqV' y (.lst _)) = false
    simp only [List.any_cons, List.any_nil, eq_sl, Bool.or_self]
  | sgn s =>
    rw [if_pos (by rfl)]
    refine congrArg (fun b => R.ok (PV.bl b)) ?_
    show (!_) = !(isSg s)
    refine congrArg not ?_
    rw [show encI (.sgn s) = .str (tx (32 :: s)) from rfl]
    simp only [List.any_cons, List.any_nil, eqV_ss, tx_eq]
    have q : ∀ c : Nat, decide ([32, c, 32] = 32 :: s) = decide (s = [c, 32]) := fun c => decide_eq_decide.mpr ⟨fun z => by injection z with _ z; exact z.symm, fun z => by rw [z]⟩
    rw [q, q, q, q, q]
    unfold isSg
    cases decide (s = [43, 32]) <;> cases decide (s = [45, 32]) <;> cases decide (s = [42, 32]) <;> cases decide (s = [58, 32]) <;> cases decide (s = [94, 32]) <;> rfl
theorem ix4 {l : List PV} {d c b a : PV} : ixP (.lst (l ++ [d, c, b, a])) (.int (-4)) = .ok d := ixP_neg (k := 4) (by omega) (by simp) (by simp)
theorem ix3 {l : List PV} {d c b a : PV} : ixP (.lst (l ++ [d, c, b, a])) (.int (-3)) = .ok c := ixP_neg (k := 3) (by omega) (by simp) (by simp)
theorem ix1 {l : List PV} {d c b a : PV} : ixP (.lst (l ++ [d, c, b, a])) (.int (-1)) = .ok a := ixP_neg (k := 1) (by omega) (by simp) (by simp)
theorem cut3 {l : List PV} {d c b a : PV} : cutG (l ++ [d, c, b, a]) (some (-3)) none = [c, b, a] := by
  unfold cutG
  have e1 : HT.sIx (l ++ [d, c, b, a]).length 0 (some (-3)) = l.length + 1 := by
    unfold HT.sIx; dsimp only; rw [if_pos (by omega)]; simp; omega
  have e2 : HT.sIx (l ++ [d, c, b, a]).length (l ++ [d, c, b, a]).length none = l.length + 4 := by
    unfold HT.sIx; simp
  rw [e1, e2, List.drop_append, List.drop_eq_nil_of_le (by omega), show l.length + 1 - l.length = 1 by omega, show l.length + 4 - (l.length + 1) = 3 by omega]
  rfl
theorem cut4 {l : List PV} {d c b a : PV} : cutG (l ++ [d, c, b, a]) none (some (-4)) = l := by
  unfold cutG
  have e1 : HT.sIx (l ++ [d, c, b, a]).length (l ++ [d, c, b, a]).length (some (-4)) = l.length := by
    unfold HT.sIx; dsimp only; rw [if_pos (by omega)]; simp; omega
  have e2 : HT.sIx (l ++ [d, c, b, a]).length 0 none = 0 := rfl
  rw [e1, e2]
  simp
theorem stV4 (a b c d : It) (st : List It) : stV (a :: b :: c :: d :: st) = stV st ++ [encI d, encI c, encI b, encI a] := by
  rw [stV_cons, stV_cons, stV_cons, stV_cons]; simp
theorem stV_len (st : List It) : (stV st).length = st.length := by unfold stV; simp
/-- the digit of a power, as the law looks at it -/
theorem pow_test {x y : RT} (oy : OkR y) (ly : (txR y).length ≤ 1000) (s0 s1 s2 s4 : Slot) :
    (tOr' (tB1 (e2 neP (eD lenP (aCons (e2 ixP (eVo 3) (eC (.int 0))) aNil)) (eC (.int 1)))) (tOr' (tB1 (e2 notInS (e2 ixP (eVo 3) (eC (.int 0))) (eC (.str "123456789")))) (tB1 (e2 isBP (e2 ixP (eVo 3) (eC (.int 2))) (eC (.bl false)))))) [s0, s1, s2, .val (encI (.term y)), s4] = .ok (powI x y).isNone := by
  have i0 : ixP (encI (.term y)) (.int 0) = .ok (.str (tx (shT (enR y)))) := rfl
  have i2 : ixP (encI (.term y)) (.int 2) = .ok (.bl (bareI y)) := rfl
  have ls := sh_len oy
  have ln := lenP_tx (l := shT (enR y)) (by omega)
  obtain ⟨E, hE⟩ : ∃ E, E = encI (.term y) := ⟨_, rfl⟩
  rw [← hE] at i0 i2 ⊢
  have ib : isBP (.bl (bareI y)) (.bl false) = .ok (.bl (!bareI y)) := by cases bareI y <;> rfl
  by_cases h1 : ∃ c, shT (enR y) = [c]
  · obtain ⟨c, hc⟩ := h1
    have pe : (powI x y).isNone = !(decide (49 ≤ c ∧ c ≤ 57) && bareI y) := by
      unfold powI
      rw [hc]
      dsimp only
      by_cases hd : 49 ≤ c ∧ c ≤ 57
      · rw [decide_eq_true hd]
        cases hb : bareI y with
        | true => rw [if_pos ⟨hd.1, hd.2, rfl⟩]; rfl
        | false => rw [if_neg (fun z => nomatch z.2.2)]; rfl
      · rw [decide_eq_false hd, if_neg (fun z => hd ⟨z.1, z.2.1⟩)]; rfl
    rw [pe]
    rw [hc] at i0 ln
    have n1 : neP (.int (([c] : List Nat).length : Int)) (.int 1) = .ok (.bl false) := by simp
    have q5 := notInS_tx c [49, 50, 51, 52, 53, 54, 55, 56, 57]
    have q6 : (!decide (c ∈ [49, 50, 51, 52, 53, 54, 55, 56, 57])) = !decide (49 ≤ c ∧ c ≤ 57) := by
      refine congrArg not (decide_eq_decide.mpr ?_)
      simp; omega
    rw [q6] at q5
    simp only [tOr_eq, tB1_eq, e2_eq, eD_eq, aCons_eq, aNil_eq, eVos, eVo0, eC_eq, bind1, i0, i2, ln, n1, asB_eq, if_neg Bool.false_ne_true, s_nines, q5, ib]
    cases decide (49 ≤ c ∧ c ≤ 57) <;> cases bareI y <;> rfl
  · have n1 : neP (.int ((shT (enR y)).length : Int)) (.int 1) = .ok (.bl true) := by
      have : (((shT (enR y)).length : Int) == 1) = false := by
        rw [beq_eq_false_iff_ne]
        intro z
        obtain ⟨c, hc⟩ := List.length_eq_one_iff.mp (show (shT (enR y)).length = 1 by omega)
        exact h1 ⟨c, hc⟩
      rw [neP_ii, this]; rfl
    have pe : (powI x y).isNone = true := by
      unfold powI
      split
      · rename_i c hc; exact absurd ⟨c, hc⟩ h1
      · rfl
    rw [pe]
    simp only [tOr_eq, tB1_eq, e2_eq, eD_eq, aCons_eq, aNil_eq, eVos, eVo0, eC_eq, bind1, i0, ln, n1, asB_eq, if_true]
theorem l3P (a b c : PV) : lstP [a, b, c] = .ok (.lst [a, b, c]) := rfl
theorem l1P (a : PV) : lstP [a] = .ok (.lst [a]) := rfl
theorem l5P (a b c d e : PV) : lstP [a, b, c, d, e] = .ok (.lst [a, b, c, d, e]) := rfl
def shutV (st : List It) : PV := match shutI st with
  | some st' => .lst (stV st')
  | none => .non
theorem sg_pow {b : It} {x y : RT} (hs : isSgI b = true) (he : b ≠ .sgn [94, 32]) : ∃ k, b = .sgn [sg k, 32] ∧ mkI b x y = some (.two k x y) := by
  cases b with
  | opn => cases hs
  | term r => cases hs
  | sgn s =>
    have h94 : s ≠ [94, 32] := fun z => he (by rw [z])
    have hs : isSg s = true := hs
    unfold isSg at hs
    rw [decide_eq_false h94, Bool.or_false, Bool.or_eq_true, Bool.or_eq_true, Bool.or_eq_true, decide_eq_true_eq, decide_eq_true_eq, decide_eq_true_eq, decide_eq_true_eq] at hs
    rcases hs with ((rfl | rfl) | rfl) | rfl
    · exact ⟨0, rfl, rfl⟩
    · exact ⟨1, rfl, rfl⟩
    · exact ⟨2, rfl, rfl⟩
    · exact ⟨3, rfl, rfl⟩
theorem not_sg_mk {b : It} {x y : RT} (hs : isSgI b = false) : mkI b x y = none := by
  cases b with
  | opn => rfl
  | term r => rfl
  | sgn s =>
    have hs : isSg s = false := hs
    unfold isSg at hs
    simp only [Bool.or_eq_false_iff, decide_eq_false_iff_not] at hs
    unfold mkI
    dsimp only
    rw [if_neg hs.1.1.1.1, if_neg hs.1.1.1.2, if_neg hs.1.1.2, if_neg hs.1.2, if_neg hs.2]
theorem f_shut {st : List It} (g : ∀ i ∈ st, GdI i) (hl : st.length ≤ 1000) : F__law_shut [.lst (stV st)] = .ok (shutV st) := by
  refine (runF_eq (n := 5) (u := D__law_shut)).trans ?_
  show (D__law_shut [.val (.lst (stV st)), .un, .un, .un, .un]).res = _
  have n4 : negP (.int 4) = .ok (.int (-4)) := by simp
  have n3 : negP (.int 3) = .ok (.int (-3)) := by simp
  have n1 : negP (.int 1) = .ok (.int (-1)) := by simp
  have ll : lenP [.lst (stV st)] = .ok (.int st.length) := by rw [lenP_l, stV_len]
  by_cases h4 : ∃ a b c d st0, st = a :: b :: c :: d :: st0
  · obtain ⟨a, b, c, d, st0, rfl⟩ := h4
    have ga := g a (by simp)
    have gb := g b (by simp)
    have gc := g c (by simp)
    have gd := g d (by simp)
    rw [stV4] at ll ⊢
    have lt : ¬ ((((a :: b :: c :: d :: st0).length : Nat) : Int) < 4) := by simp; omega
    obtain ⟨S0, hS0⟩ : ∃ S0, S0 = stV st0 := ⟨_, rfl⟩
    have lS0 : S0.length ≤ 1000 := by rw [hS0, stV_len]; simp at hl; omega
    obtain ⟨S, hS⟩ : ∃ S, S = PV.lst (S0 ++ [encI d, encI c, encI b, encI a]) := ⟨_, rfl⟩
    have i4 : ixP S (.int (-4)) = .ok (encI d) := by rw [hS]; exact ix4
    have i3 : ixP S (.int (-3)) = .ok (encI c) := by rw [hS]; exact ix3
    have i1 : ixP S (.int (-1)) = .ok (encI a) := by rw [hS]; exact ix1
    have s3 : slP S (some (-3)) none = .ok (.lst [encI c, encI b, encI a]) := by rw [hS, slP_l, cut3]
    have s4 : slP S none (some (-4)) = .ok (.lst S0) := by rw [hS, slP_l, cut4]
    rw [← hS0, ← hS] at ll ⊢
    have nd := ne_opn gd
    have ic := isi_tm c
    have ia := isi_tm a
    have t1 : (tOr' (tB1 (e2 ltP (eD lenP (aCons (eVo 0) aNil)) (eC (.int 4)))) (tOr' (tB1 (e2 neP (e2 ixP (eVo 0) (e1 negP (eC (.int 4)))) (eC (.str "(")))) (tOr' (tNt (tB1 (e1 (isiP "list") (e2 ixP (eVo 0) (e1 negP (eC (.int 3))))))) (tNt (tB1 (e1 (isiP "list") (e2 ixP (eVo 0) (e1 negP (eC (.int 1)))))))))) [.val S, .un, .un, .un, .un] = .ok (!(isOpn d && isTm c && isTm a)) := by
      simp only [tOr_eq, tNt_eq, tB1_eq, e1_eq, e2_eq, eD_eq, aCons_eq, aNil_eq, eVo0, eC_eq, bind1, ll, ltP_ii, decide_eq_false lt, asB_eq, if_neg Bool.false_ne_true, n4, i4, nd, n3, i3, ic, n1, i1, ia]
      cases isOpn d <;> cases isTm c <;> cases isTm a <;> rfl
    unfold D__law_shut
    by_cases ok : (isOpn d && isTm c && isTm a) = true
    · rw [Bool.and_eq_true, Bool.and_eq_true] at ok
      obtain ⟨⟨od, oc⟩, oa⟩ := ok
      rw [od, oc, oa] at t1
      cases d with
      | sgn s => cases od
      | term r => cases od
      | opn =>
        cases c with
        | opn => cases oc
        | sgn s => cases oc
        | term x =>
          cases a with
          | opn => cases oa
          | sgn s => cases oa
          | term y =>
            refine skp (by rw [t1]; rfl) ?_
            obtain ⟨ox, lx⟩ := gc
            obtain ⟨oy, ly⟩ := ga
            obtain ⟨X, hX⟩ : ∃ X, X = encI (.term x) := ⟨_, rfl⟩
            obtain ⟨Y, hY⟩ : ∃ Y, Y = encI (.term y) := ⟨_, rfl⟩
            obtain ⟨Z, hZ⟩ : ∃ Z, Z = encI b := ⟨_, rfl⟩
            have x0 : ixP X (.int 0) = .ok (.str (tx (shT (enR x)))) := by rw [hX]; rfl
            have x1 : ixP X (.int 1) = .ok (.int (wtT (enR x))) := by rw [hX]; rfl
            have y0 : ixP Y (.int 0) = .ok (.str (tx (shT (enR y)))) := by rw [hY]; rfl
            have y1 : ixP Y (.int 1) = .ok (.int (wtT (enR y))) := by rw [hY]; rfl
            have pt := pow_test (x := x) oy ly (.val S) (.val X) (.val Z) .un
            have nb := not_sg gb
            rw [← hX, ← hY, ← hZ] at s3
            rw [← hY] at pt
            rw [← hZ] at nb
            refine stpN (ρ' := [.val S, .val X, .val Z, .val Y, .un]) (by
              simp only [sTo_eq, eSl_eq, oSome_eq, oNone_eq, e1_eq, eVo0, eC_eq, bind1, n3, asI_eq, s3, st_ok]
              rfl) ?_
            have shV : shutV (.term y :: b :: .term x :: .opn :: st0) = match mkI b x y with
                | some r => .lst (stV st0 ++ [encI (.term r)])
                | none => .non := by
              unfold shutV shutI
              dsimp only
              cases mkI b x y with
              | none => rfl
              | some r => dsimp only; rw [stV_cons]
            rw [shV, ← hS0]
            cases hb : isSgI b with
            | false =>
              rw [hb] at nb
              rw [not_sg_mk hb]
              refine ifT (by simp only [tB1_eq, e2_eq, eD_eq, aCons_eq, aNil_eq, eVos, eVo0, eC_eq, bind1, l5P, nb, asB_eq]; rfl) ?_
              simp
            | true =>
              rw [hb] at nb
              refine skp (by simp only [tB1_eq, e2_eq, eD_eq, aCons_eq, aNil_eq, eVos, eVo0, eC_eq, bind1, l5P, nb, asB_eq]; rfl) ?_
              have lsx := sh_len ox
              have lsy := sh_len oy
              have wx := wt_sz ox lx
              have wy := wt_sz oy ly
              have axx := sh_asc ox
              by_cases hp : b = .sgn [94, 32]
              · subst hp
                have q2 := eqP_tx (asc3 (show 94 < 128 by omega)) (asc3 (show 94 < 128 by omega))
                have hZ' : Z = .str (tx [32, 94, 32]) := hZ
                subst hZ'
                have mk : mkI (.sgn [94, 32]) x y = powI x y := rfl
                rw [mk]
                have tt : ∀ ρ : Rho, ρ = [.val S, .val X, .val (.str (tx [32, 94, 32])), .val Y, .un] → (tAn (tB1 (e2 eqP (eVo 2) (eC (.str " ^ ")))) (tOr' (tB1 (e2 neP (eD lenP (aCons (e2 ixP (eVo 3) (eC (.int 0))) aNil)) (eC (.int 1)))) (tOr' (tB1 (e2 notInS (e2 ixP (eVo 3) (eC (.int 0))) (eC (.str "123456789")))) (tB1 (e2 isBP (e2 ixP (eVo 3) (eC (.int 2))) (eC (.bl false))))))) ρ = .ok (powI x y).isNone := fun ρ hρ => by
                  rw [tAn_eq, hρ, pt]
                  simp only [tB1_eq, e2_eq, eVos, eVo0, eC_eq, bind1, s_hat, q2, asB_eq]
                  rfl
                cases hpw : powI x y with
                | none =>
                  rw [hpw] at tt
                  refine ifT (by rw [tt _ rfl]; rfl) ?_
                  simp
                | some r =>
                  rw [hpw] at tt
                  refine skp (by rw [tt _ rfl]; rfl) ?_
                  obtain ⟨n, rfl, n1', n9, hn⟩ := powI_some hpw
                  have hsh : shT (enR y) = [48 + n] := by
                    unfold powI at hpw
                    split at hpw
                    · rename_i c hc
                      split at hpw
                      · injection hpw with hpw
                        injection hpw with _ hpw
                        rw [hc]
                        exact congrArg (fun z => [z]) (by omega)
                      · cases hpw
                    · cases hpw
                  rw [hsh] at y0
                  have nn : n = 1 ∨ n = 2 ∨ n = 3 ∨ n = 4 ∨ n = 5 ∨ n = 6 ∨ n = 7 ∨ n = 8 ∨ n = 9 := by omega
                  have iv : intS [.str (tx [48 + n])] = .ok (.int n) := by
                    rw [intS_val (by rcases nn with rfl | rfl | rfl | rfl | rfl | rfl | rfl | rfl | rfl <;> decide)]
                    rcases nn with rfl | rfl | rfl | rfl | rfl | rfl | rfl | rfl | rfl <;> rfl
                  have mm : mulP (.int (wtT (enR x))) (.int (n : Int)) = .ok (.int ((wtT (enR (.pow x n)) : Nat) : Int)) := by
                    rw [mulP_ii (okMul_of (m := 4000) (n := 4000) wx (Nat.lt_of_le_of_lt (show (n : Int).natAbs ≤ 9 by omega) (by decide +kernel)) (by omega) (by omega) (by omega))]
                    show R.ok (PV.int ((wtT (enR x) : Int) * (n : Int))) = R.ok (PV.int ((n * wtT (enR x) : Nat) : Int))
                    rw [Int.natCast_mul, Int.mul_comm]
                  refine stp (.int ((wtT (enR x) : Int) + (wtT (enR y) : Int))) (by simp only [e2_eq, eVos, eVo0, eC_eq, bind1, x1, y1, addP_ii]) ?_
                  simp only [List.set_cons_succ, List.set_cons_zero]
                  refine ifT (by simp only [tB1_eq, e2_eq, eVos, eVo0, eC_eq, bind1, s_hat, q2, asB_eq]; rfl) ?_
                  rw [bSeq_eq, bSeq_eq, sSet_eq]
                  simp only [e2_eq, eD_eq, aCons_eq, aNil_eq, eVos, eVo0, eC_eq, bind1, x1, y0, iv, mm, st_ok, then_next, bNil_eq, List.set_cons_succ, List.set_cons_zero]
                  have a1 := addP_tx (a := [40]) (b := shT (enR x)) (by simp; omega)
                  have a2 := addP_tx (a := [40] ++ shT (enR x)) (b := [32, 94, 32]) (by simp; omega)
                  have a3 := addP_tx (a := [40] ++ shT (enR x) ++ [32, 94, 32]) (b := [48 + n]) (by simp; omega)
                  have a4 := addP_tx (a := [40] ++ shT (enR x) ++ [32, 94, 32] ++ [48 + n]) (b := [41]) (by simp; omega)
                  have te : [40] ++ shT (enR x) ++ [32, 94, 32] ++ [48 + n] ++ [41] = shT (enR (.pow x n)) := by
                    show _ = 40 :: (shT (enR x) ++ (32 :: 94 :: 32 :: (48 + n) :: [41]))
                    simp
                  rw [te] at a4
                  have al : addL (.lst S0) (.lst [.lst [.str (tx (shT (enR (.pow x n)))), .int ((wtT (enR (.pow x n)) : Nat) : Int), .bl false]]) = .ok (.lst (S0 ++ [encI (.term (.pow x n))])) := by
                    unfold addL
                    dsimp only
                    rw [if_pos (size_ok (by simp; omega))]
                    rfl
                  simp only [bSeq_eq, sRet_eq, e2_eq, eD_eq, aCons_eq, aNil_eq, eSl_eq, oNone_eq, oSome_eq, e1_eq, eVs, eV0, eVos, eVo0, eC_eq, bind1, n4, asI_eq, s4, s_open, s_close, x0, y0, a1, a2, a3, a4, l3P, l1P, al, st_ok, then_ret, res_ret]
              · obtain ⟨k, rfl, mk⟩ := sg_pow (x := x) (y := y) hb hp
                have hZ' : Z = .str (tx [32, sg k, 32]) := hZ
                subst hZ'
                rw [mk]
                have q2 := eqP_tx (asc3 (sgl k).1) (asc3 (show 94 < 128 by omega))
                rw [decide_eq_false (by intro z; injection z with _ z; injection z with z; exact (sgl k).2 z)] at q2
                refine skp (by simp only [tAn_eq, tB1_eq, e2_eq, eVos, eVo0, eC_eq, bind1, s_hat, q2, asB_eq, if_neg Bool.false_ne_true]) ?_
                refine stp (.int ((wtT (enR x) : Int) + (wtT (enR y) : Int))) (by simp only [e2_eq, eVos, eVo0, eC_eq, bind1, x1, y1, addP_ii]) ?_
                simp only [List.set_cons_succ, List.set_cons_zero]
                refine skp (by simp only [tB1_eq, e2_eq, eVos, eVo0, eC_eq, bind1, s_hat, q2, asB_eq]) ?_
                have a1 := addP_tx (a := [40]) (b := shT (enR x)) (by simp; omega)
                have a2 := addP_tx (a := [40] ++ shT (enR x)) (b := [32, sg k, 32]) (by simp; omega)
                have a3 := addP_tx (a := [40] ++ shT (enR x) ++ [32, sg k, 32]) (b := shT (enR y)) (by simp; omega)
                have a4 := addP_tx (a := [40] ++ shT (enR x) ++ [32, sg k, 32] ++ shT (enR y)) (b := [41]) (by simp; omega)
                have te : [40] ++ shT (enR x) ++ [32, sg k, 32] ++ shT (enR y) ++ [41] = shT (enR (.two k x y)) := by
                  show _ = 40 :: (shT (enR x) ++ (32 :: sg k :: 32 :: (shT (enR y) ++ [41])))
                  simp
                rw [te] at a4
                have ew : (wtT (enR x) : Int) + (wtT (enR y) : Int) = ((wtT (enR (.two k x y)) : Nat) : Int) := by
                  show _ = ((wtT (enR x) + wtT (enR y) : Nat) : Int)
                  omega
                rw [ew]
                have al : addL (.lst S0) (.lst [.lst [.str (tx (shT (enR (.two k x y)))), .int ((wtT (enR (.two k x y)) : Nat) : Int), .bl false]]) = .ok (.lst (S0 ++ [encI (.term (.two k x y))])) := by
                  unfold addL
                  dsimp only
                  rw [if_pos (size_ok (by simp; omega))]
                  rfl
                simp only [bSeq_eq, sRet_eq, e2_eq, eD_eq, aCons_eq, aNil_eq, eSl_eq, oNone_eq, oSome_eq, e1_eq, eVs, eV0, eVos, eVo0, eC_eq, bind1, n4, asI_eq, s4, s_open, s_close, x0, y0, a1, a2, a3, a4, l3P, l1P, al, st_ok, then_ret, res_ret]
    · have shN : shutV (a :: b :: c :: d :: st0) = .non := by
        have : shutI (a :: b :: c :: d :: st0) = none := by
          unfold shutI
          split
          · rename_i y b' x st' e
            injection e with e1 e
            injection e with e2 e
            injection e with e3 e
            injection e with e4 e
            subst e1 e3 e4
            exact absurd rfl ok
          · rfl
        unfold shutV; rw [this]
      rw [shN]
      rw [show (isOpn d && isTm c && isTm a) = false by simpa using ok] at t1
      refine ifT (by rw [t1]; rfl) ?_
      simp
  · have shN : shutV st = .non := by
      have : shutI st = none := by
        unfold shutI
        split
        · rename_i y b x st'
          exact absurd ⟨_, _, _, _, _, rfl⟩ h4
        · rfl
      unfold shutV; rw [this]
    rw [shN]
    have lt : ((st.length : Nat) : Int) < 4 := by
      match st, h4 with
      | [], _ => simp
      | [_], _ => simp
      | [_, _], _ => simp
      | [_, _, _], _ => simp
      | a :: b :: c :: d :: e, h4 => exact absurd ⟨a, b, c, d, e, rfl⟩ h4
    obtain ⟨S, hS⟩ : ∃ S, S = PV.lst (stV st) := ⟨_, rfl⟩
    rw [← hS] at ll ⊢
    unfold D__law_shut
    refine ifT (by simp only [tOr_eq, tB1_eq, e2_eq, eD_eq, aCons_eq, aNil_eq, eVo0, eC_eq, bind1, ll, ltP_ii, decide_eq_true lt, asB_eq, if_true]) ?_
    simp
theorem wh_go {t : Rho → R Bool} {b k : Rho → Out} {ρ ρ1 : Rho} {r : R PV} (ht : t ρ = .ok true) (hb : b ρ = .next ρ1) (g : (bSeq (sWh t b) k ρ1).res = r) : (bSeq (sWh t b) k ρ).res = r := by
  rw [bSeq_eq, sWh_eq, ht]
  dsimp only
  rw [hb]
  dsimp only
  rw [bSeq_eq] at g
  exact g
theorem wh_no {t : Rho → R Bool} {b k : Rho → Out} {ρ : Rho} {r : R PV} (ht : t ρ = .ok false) (g : (k ρ).res = r) : (bSeq (sWh t b) k ρ).res = r := by
  rw [bSeq_eq, sWh_eq, ht]
  exact g
theorem setN_l {i : Nat} {f : Rho → R PV} {ρ : Rho} {ps : List PV} (h : f ρ = .ok (.lst ps)) : sSetN i f ρ = .next (ρ.set i (.own ps)) := by
  unfold sSetN sE; rw [h]
theorem setN_n {i : Nat} {f : Rho → R PV} {ρ : Rho} (h : f ρ = .ok .non) : sSetN i f ρ = .next (ρ.set i (.val .non)) := by
  unfold sSetN sE; rw [h]
theorem setP_last (l : List PV) (x p : PV) : setP (l ++ [x]) p (.int (-1)) = .ok (l ++ [p]) := by
  unfold setP ixN
  dsimp only
  rw [if_neg (by omega), if_pos (by simp; omega)]
  dsimp only
  rw [show ((-1 : Int) + ((l ++ [x]).length : Nat)).toNat = l.length by simp; omega]
  simp
def resV : Option RT → PV
  | none => .non
  | some r => .str (tx (shT (enR r)))
theorem txR_pos : ∀ r : RT, 1 ≤ (txR r).length
  | .part true a b => numT_pos a
  | .part false a b => by show 1 ≤ (numT a ++ 47 :: numT b).length; rw [List.length_append, List.length_cons]; omega
  | .two k x y => by show 1 ≤ (40 :: _ : List Nat).length; rw [List.length_cons]; omega
  | .pow x n => by show 1 ≤ (40 :: _ : List Nat).length; rw [List.length_cons]; omega
theorem src_len : ∀ st : List It, st.length ≤ (src st).length
  | [] => Nat.zero_le _
  | a :: st => by
    have := src_len st
    have : 1 ≤ (srcI a).length := by
      cases a with
      | opn => exact Nat.le_refl _
      | sgn s => show 1 ≤ (32 :: s).length; rw [List.length_cons]; omega
      | term r => exact txR_pos r
    rw [src_cons, List.length_append, List.length_cons]
    omega
section
variable {T s4 s5 : Slot} {S : List PV} {k : Int}
theorem lt_own {rest : List Nat} (ha : Asc rest) : (tAn (tB1 (e2 neP (eVo 2) (eC (.str "")))) (tAn (tB1 (e2 notNP (eVo 1) (eC .non))) (tB1 (e2 leP (eVo 3) (eC (.int 10)))))) [T, .own S, .val (.str (tx rest)), .val (.int k), s4, s5] = .ok (!decide (rest = []) && decide (k ≤ 10)) := by
  have q := neP_tx ha Asc.nil
  have nn : notNP (.lst S) .non = .ok (.bl true) := rfl
  simp only [tAn_eq, tB1_eq, e2_eq, eVos, eVo0, eVo0', eC_eq, bind1, s_empty, q, nn, asB_eq, leP_ii]
  cases decide (rest = []) <;> simp
theorem lt_non {rest : List Nat} (ha : Asc rest) : (tAn (tB1 (e2 neP (eVo 2) (eC (.str "")))) (tAn (tB1 (e2 notNP (eVo 1) (eC .non))) (tB1 (e2 leP (eVo 3) (eC (.int 10)))))) [T, .val .non, .val (.str (tx rest)), .val (.int k), s4, s5] = .ok false := by
  have q := neP_tx ha Asc.nil
  have nn : notNP .non .non = .ok (.bl false) := rfl
  simp only [tAn_eq, tB1_eq, e2_eq, eVos, eVo0, eC_eq, bind1, s_empty, q, nn, asB_eq]
  cases decide (rest = []) <;> simp
theorem end_non {rest : List Nat} : ((bSeq (sIf (tOr' (tB1 (e2 isNP (eVo 1) (eC .non))) (tOr' (tB1 (e2 neP (eVo 2) (eC (.str "")))) (tOr' (tB1 (e2 neP (eD lenP (aCons (eVo 1) aNil)) (eC (.int 1)))) (tOr' (tNt (tB1 (e1 (isiP "list") (e2 ixP (eVo 1) (eC (.int 0)))))) (tB1 (e2 gtP (e2 ixP (e2 ixP (eVo 1) (eC (.int 0))) (eC (.int 1))) (eC (.int 50)))))))) (bSeq (sRet (eC .non)) bNil) bNil) (bSeq (sRet (e2 ixP (e2 ixP (eVo 1) (eC (.int 0))) (eC (.int 0)))) bNil)) [T, .val .non, .val (.str (tx rest)), .val (.int k), s4, s5]).res = .ok .non := by
  have nn : isNP .non .non = .ok (.bl true) := rfl
  refine ifT (by simp only [tOr_eq, tB1_eq, e2_eq, eVos, eVo0, eC_eq, bind1, nn, asB_eq, if_true]) ?_
  simp
theorem end_rest {rest : List Nat} (ha : Asc rest) (h : rest ≠ []) : ((bSeq (sIf (tOr' (tB1 (e2 isNP (eVo 1) (eC .non))) (tOr' (tB1 (e2 neP (eVo 2) (eC (.str "")))) (tOr' (tB1 (e2 neP (eD lenP (aCons (eVo 1) aNil)) (eC (.int 1)))) (tOr' (tNt (tB1 (e1 (isiP "list") (e2 ixP (eVo 1) (eC (.int 0)))))) (tB1 (e2 gtP (e2 ixP (e2 ixP (eVo 1) (eC (.int 0))) (eC (.int 1))) (eC (.int 50)))))))) (bSeq (sRet (eC .non)) bNil) bNil) (bSeq (sRet (e2 ixP (e2 ixP (eVo 1) (eC (.int 0))) (eC (.int 0)))) bNil)) [T, .own S, .val (.str (tx rest)), .val (.int k), s4, s5]).res = .ok .non := by
  have q := neP_tx ha Asc.nil
  rw [decide_eq_false h] at q
  have nn : isNP (.lst S) .non = .ok (.bl false) := rfl
  refine ifT (by simp only [tOr_eq, tB1_eq, e2_eq, eVos, eVo0, eVo0', eC_eq, bind1, nn, asB_eq, if_neg Bool.false_ne_true, s_empty, q]; rfl) ?_
  simp
theorem end_fin (st : List It) : ((bSeq (sIf (tOr' (tB1 (e2 isNP (eVo 1) (eC .non))) (tOr' (tB1 (e2 neP (eVo 2) (eC (.str "")))) (tOr' (tB1 (e2 neP (eD lenP (aCons (eVo 1) aNil)) (eC (.int 1)))) (tOr' (tNt (tB1 (e1 (isiP "list") (e2 ixP (eVo 1) (eC (.int 0)))))) (tB1 (e2 gtP (e2 ixP (e2 ixP (eVo 1) (eC (.int 0))) (eC (.int 1))) (eC (.int 50)))))))) (bSeq (sRet (eC .non)) bNil) bNil) (bSeq (sRet (e2 ixP (e2 ixP (eVo 1) (eC (.int 0))) (eC (.int 0)))) bNil)) [T, .own (stV st), .val (.str (tx [])), .val (.int k), s4, s5]).res = .ok (resV (fin st)) := by
  have q := neP_tx Asc.nil Asc.nil
  rw [← s_empty] at q ⊢
  have nn : ∀ S, isNP (.lst S) .non = .ok (.bl false) := fun _ => rfl
  have ll : lenP [.lst (stV st)] = .ok (.int st.length) := by rw [lenP_l, stV_len]
  by_cases h1 : ∃ a, st = [a]
  · obtain ⟨a, rfl⟩ := h1
    have e : stV [a] = [encI a] := rfl
    rw [e] at ll ⊢
    have n1 : neP (.int (([a] : List It).length : Int)) (.int 1) = .ok (.bl false) := by simp
    have i0 : ixP (.lst [encI a]) (.int 0) = .ok (encI a) := ixP_l0
    have ia := isi_tm a
    cases a with
    | opn =>
      have ff : fin [.opn] = none := rfl
      rw [ff]
      refine ifT (by simp only [tOr_eq, tNt_eq, tB1_eq, e1_eq, e2_eq, eD_eq, aCons_eq, aNil_eq, eVos, eVo0, eVo0', eC_eq, bind1, nn, asB_eq, if_neg Bool.false_ne_true, q, ll, n1, i0, ia]; rfl) ?_
      simp [resV]
    | sgn s =>
      have ff : fin [.sgn s] = none := rfl
      rw [ff]
      refine ifT (by simp only [tOr_eq, tNt_eq, tB1_eq, e1_eq, e2_eq, eD_eq, aCons_eq, aNil_eq, eVos, eVo0, eVo0', eC_eq, bind1, nn, asB_eq, if_neg Bool.false_ne_true, q, ll, n1, i0, ia]; rfl) ?_
      simp [resV]
    | term r =>
      have x0 : ixP (encI (.term r)) (.int 0) = .ok (.str (tx (shT (enR r)))) := rfl
      have x1 : ixP (encI (.term r)) (.int 1) = .ok (.int (wtT (enR r))) := rfl
      have ff : fin [.term r] = if wtT (enR r) ≤ 50 then some r else none := rfl
      rw [ff]
      obtain ⟨X, hX⟩ : ∃ X, X = encI (.term r) := ⟨_, rfl⟩
      rw [← hX] at x0 x1 i0 ia ⊢
      by_cases hw : wtT (enR r) ≤ 50
      · rw [if_pos hw]
        have gt : ¬ ((50 : Int) < (wtT (enR r) : Int)) := by omega
        refine skp (by simp only [tOr_eq, tNt_eq, tB1_eq, e1_eq, e2_eq, eD_eq, aCons_eq, aNil_eq, eVos, eVo0, eVo0', eC_eq, bind1, nn, asB_eq, if_neg Bool.false_ne_true, q, ll, n1, i0, ia, x1, gtP_ii, decide_eq_false gt]; rfl) ?_
        simp only [bSeq_eq, sRet_eq, e2_eq, eVos, eVo0', eC_eq, bind1, i0, x0, st_ok, then_ret, res_ret]
        rfl
      · rw [if_neg hw]
        have gt : (50 : Int) < (wtT (enR r) : Int) := by omega
        refine ifT (by simp only [tOr_eq, tNt_eq, tB1_eq, e1_eq, e2_eq, eD_eq, aCons_eq, aNil_eq, eVos, eVo0, eVo0', eC_eq, bind1, nn, asB_eq, if_neg Bool.false_ne_true, q, ll, n1, i0, ia, x1, gtP_ii, decide_eq_true gt]; rfl) ?_
        simp [resV]
  · have ff : fin st = none := by
      unfold fin
      split
      · exact absurd ⟨_, rfl⟩ h1
      · rfl
    rw [ff]
    have n1 : neP (.int (st.length : Int)) (.int 1) = .ok (.bl true) := by
      have : ((st.length : Int) == 1) = false := by
        rw [beq_eq_false_iff_ne]
        intro z
        exact h1 (List.length_eq_one_iff.mp (by omega))
      rw [neP_ii, this]; rfl
    refine ifT (by simp only [tOr_eq, tNt_eq, tB1_eq, e1_eq, e2_eq, eD_eq, aCons_eq, aNil_eq, eVos, eVo0, eVo0', eC_eq, bind1, nn, asB_eq, if_neg Bool.false_ne_true, q, ll, n1]; rfl) ?_
    simp [resV]
theorem ix0 {c : Nat} {r : List Nat} (hl : (c :: r).length ≤ 1000) : ixP (.str (tx (c :: r))) (.int 0) = .ok (.str (tx [c])) := ixP_tx (by omega) rfl (by omega)
theorem sl1 {c : Nat} {r : List Nat} (hl : (c :: r).length ≤ 1000) : slP (.str (tx (c :: r))) (some 1) none = .ok (.str (tx r)) := by rw [slP_tx _ _ (by omega), cut_drop _ _ (by omega)]; rfl
theorem q1 {c d : Nat} (hc : c < 128) (hd : d < 128) : eqP (.str (tx [c])) (.str (tx [d])) = .ok (.bl (decide (c = d))) := by
  rw [eqP_tx (asc1 hc) (asc1 hd)]
  simp
theorem body_open {r : List Nat} (hl : (40 :: r).length ≤ 1000) (hS : S.length ≤ 1000) : (bSeq (sIf (tB1 (e2 eqP (e2 ixP (eVo 2) (eC (.int 0))) (eC (.str "(")))) (bSeq (sMut 1 appP (eC (.str "("))) (bSeq (sSet 3 (e2 addP (eVo 3) (eC (.int 1)))) (bSeq (sSet 2 (eSl slP (eVo 2) (oSome (eC (.int 1))) oNone)) bNil))) (bSeq (sIf (tB1 (e2 eqP (e2 ixP (eVo 2) (eC (.int 0))) (eC (.str ")")))) (sFrz 1 (bSeq (sSetN 1 (eD F__law_shut (aCons (eV 1) aNil))) (bSeq (sSet 3 (e2 subP (eVo 3) (eC (.int 1)))) (bSeq (sSet 2 (eSl slP (eVo 2) (oSome (eC (.int 1))) oNone)) bNil)))) (bSeq (sIf (tB1 (e2 eqP (e2 ixP (eVo 2) (eC (.int 0))) (eC (.str " ")))) (bSeq (sMut 1 appP (eSl slP (eVo 2) oNone (oSome (eC (.int 3))))) (bSeq (sSet 2 (eSl slP (eVo 2) (oSome (eC (.int 3))) oNone)) bNil)) (bSeq (sSet 4 (eD F__law_word (aCons (eV 2) aNil))) (bSeq (sSet 5 (eD F__law_part (aCons (eV 4) aNil))) (bSeq (sSet 2 (eSl slP (eVo 2) (oSome (eD lenP (aCons (eVo 4) aNil))) oNone)) (bSeq (sMut 1 appP (eD lstP (aCons (eC (.str "")) (aCons (eC (.int 0)) (aCons (eC (.bl false)) aNil))))) (bSeq (sIf (tB1 (e2 isNP (eVo 5) (eC .non))) (bSeq (sSetN 1 (eC .non)) bNil) (bSeq (sSetI 1 (eD lstP (aCons (e2 ixP (eVo 5) (eC (.int 0))) (aCons (eC (.int 1)) (aCons (e2 eqP (e2 ixP (eVo 5) (eC (.int 0))) (eVo 4)) aNil)))) (e1 negP (eC (.int 1)))) bNil)) bNil)))))) bNil)) bNil)) bNil) [T, .own S, .val (.str (tx (40 :: r))), .val (.int k), s4, s5] = .next [T, .own (S ++ [.str (tx [40])]), .val (.str (tx r)), .val (.int (k + 1)), s4, s5] := by
  have i0 := ix0 hl
  have s1 := sl1 hl
  have q := q1 (show 40 < 128 by omega) (show 40 < 128 by omega)
  have ap := appP_ok (l := S) (p := .str (tx [40])) (by omega)
  obtain ⟨X, hX⟩ : ∃ X, X = PV.str (tx (40 :: r)) := ⟨_, rfl⟩
  rw [← hX] at i0 s1 ⊢
  simp only [bSeq_eq, sIf_eq, tB1_eq, e2_eq, eSl_eq, oSome_eq, oNone_eq, asI_eq, eVos, eVo0, eC_eq, bind1, i0, s_open, q, asB_eq, decide_true, stB_ok, if_true, sMut_eq, getOwnS, getOwn0, onOwn_some, st_ok, ap, own_ok, List.set_cons_succ, List.set_cons_zero, then_next, sSet_eq, addP_ii, s1, bNil_eq]
theorem body_sgn {r : List Nat} (hl : (32 :: r).length ≤ 1000) (hS : S.length ≤ 1000) : (bSeq (sIf (tB1 (e2 eqP (e2 ixP (eVo 2) (eC (.int 0))) (eC (.str "(")))) (bSeq (sMut 1 appP (eC (.str "("))) (bSeq (sSet 3 (e2 addP (eVo 3) (eC (.int 1)))) (bSeq (sSet 2 (eSl slP (eVo 2) (oSome (eC (.int 1))) oNone)) bNil))) (bSeq (sIf (tB1 (e2 eqP (e2 ixP (eVo 2) (eC (.int 0))) (eC (.str ")")))) (sFrz 1 (bSeq (sSetN 1 (eD F__law_shut (aCons (eV 1) aNil))) (bSeq (sSet 3 (e2 subP (eVo 3) (eC (.int 1)))) (bSeq (sSet 2 (eSl slP (eVo 2) (oSome (eC (.int 1))) oNone)) bNil)))) (bSeq (sIf (tB1 (e2 eqP (e2 ixP (eVo 2) (eC (.int 0))) (eC (.str " ")))) (bSeq (sMut 1 appP (eSl slP (eVo 2) oNone (oSome (eC (.int 3))))) (bSeq (sSet 2 (eSl slP (eVo 2) (oSome (eC (.int 3))) oNone)) bNil)) (bSeq (sSet 4 (eD F__law_word (aCons (eV 2) aNil))) (bSeq (sSet 5 (eD F__law_part (aCons (eV 4) aNil))) (bSeq (sSet 2 (eSl slP (eVo 2) (oSome (eD lenP (aCons (eVo 4) aNil))) oNone)) (bSeq (sMut 1 appP (eD lstP (aCons (eC (.str "")) (aCons (eC (.int 0)) (aCons (eC (.bl false)) aNil))))) (bSeq (sIf (tB1 (e2 isNP (eVo 5) (eC .non))) (bSeq (sSetN 1 (eC .non)) bNil) (bSeq (sSetI 1 (eD lstP (aCons (e2 ixP (eVo 5) (eC (.int 0))) (aCons (eC (.int 1)) (aCons (e2 eqP (e2 ixP (eVo 5) (eC (.int 0))) (eVo 4)) aNil)))) (e1 negP (eC (.int 1)))) bNil)) bNil)))))) bNil)) bNil)) bNil) [T, .own S, .val (.str (tx (32 :: r))), .val (.int k), s4, s5] = .next [T, .own (S ++ [.str (tx (32 :: r.take 2))]), .val (.str (tx (r.drop 2))), .val (.int k), s4, s5] := by
  have i0 := ix0 hl
  have s3 : slP (.str (tx (32 :: r))) none (some 3) = .ok (.str (tx (32 :: r.take 2))) := by rw [slP_tx _ _ (by omega), cut_take _ _ (by omega)]; rfl
  have d3 : slP (.str (tx (32 :: r))) (some 3) none = .ok (.str (tx (r.drop 2))) := by rw [slP_tx _ _ (by omega), cut_drop _ _ (by omega)]; rfl
  have q4 : eqP (.str (tx [32])) (.str (tx [40])) = .ok (.bl false) := q1 (by omega) (by omega)
  have q5 : eqP (.str (tx [32])) (.str (tx [41])) = .ok (.bl false) := q1 (by omega) (by omega)
  have q6 : eqP (.str (tx [32])) (.str (tx [32])) = .ok (.bl true) := q1 (by omega) (by omega)
  have ap := appP_ok (l := S) (p := .str (tx (32 :: r.take 2))) (by omega)
  obtain ⟨X, hX⟩ : ∃ X, X = PV.str (tx (32 :: r)) := ⟨_, rfl⟩
  rw [← hX] at i0 s3 d3 ⊢
  simp only [bSeq_eq, sIf_eq, tB1_eq, e2_eq, eSl_eq, oSome_eq, oNone_eq, asI_eq, eVos, eVo0, eC_eq, bind1, i0, s_open, s_close, s_blank, q4, q5, q6, asB_eq, stB_ok, if_true, if_neg Bool.false_ne_true, sMut_eq, getOwnS, getOwn0, onOwn_some, st_ok, s3, ap, own_ok, List.set_cons_succ, List.set_cons_zero, then_next, sSet_eq, d3, bNil_eq]
theorem body_shut {r : List Nat} {st : List It} (hl : (41 :: r).length ≤ 1000) (g : ∀ i ∈ st, GdI i) (hst : st.length ≤ 1000) : (bSeq (sIf (tB1 (e2 eqP (e2 ixP (eVo 2) (eC (.int 0))) (eC (.str "(")))) (bSeq (sMut 1 appP (eC (.str "("))) (bSeq (sSet 3 (e2 addP (eVo 3) (eC (.int 1)))) (bSeq (sSet 2 (eSl slP (eVo 2) (oSome (eC (.int 1))) oNone)) bNil))) (bSeq (sIf (tB1 (e2 eqP (e2 ixP (eVo 2) (eC (.int 0))) (eC (.str ")")))) (sFrz 1 (bSeq (sSetN 1 (eD F__law_shut (aCons (eV 1) aNil))) (bSeq (sSet 3 (e2 subP (eVo 3) (eC (.int 1)))) (bSeq (sSet 2 (eSl slP (eVo 2) (oSome (eC (.int 1))) oNone)) bNil)))) (bSeq (sIf (tB1 (e2 eqP (e2 ixP (eVo 2) (eC (.int 0))) (eC (.str " ")))) (bSeq (sMut 1 appP (eSl slP (eVo 2) oNone (oSome (eC (.int 3))))) (bSeq (sSet 2 (eSl slP (eVo 2) (oSome (eC (.int 3))) oNone)) bNil)) (bSeq (sSet 4 (eD F__law_word (aCons (eV 2) aNil))) (bSeq (sSet 5 (eD F__law_part (aCons (eV 4) aNil))) (bSeq (sSet 2 (eSl slP (eVo 2) (oSome (eD lenP (aCons (eVo 4) aNil))) oNone)) (bSeq (sMut 1 appP (eD lstP (aCons (eC (.str "")) (aCons (eC (.int 0)) (aCons (eC (.bl false)) aNil))))) (bSeq (sIf (tB1 (e2 isNP (eVo 5) (eC .non))) (bSeq (sSetN 1 (eC .non)) bNil) (bSeq (sSetI 1 (eD lstP (aCons (e2 ixP (eVo 5) (eC (.int 0))) (aCons (eC (.int 1)) (aCons (e2 eqP (e2 ixP (eVo 5) (eC (.int 0))) (eVo 4)) aNil)))) (e1 negP (eC (.int 1)))) bNil)) bNil)))))) bNil)) bNil)) bNil) [T, .own (stV st), .val (.str (tx (41 :: r))), .val (.int k), s4, s5] = .next [T, (match shutI st with | some st' => .own (stV st') | none => .val .non), .val (.str (tx r)), .val (.int (k - 1)), s4, s5] := by
  have i0 := ix0 hl
  have s1 := sl1 hl
  have q4 : eqP (.str (tx [41])) (.str (tx [40])) = .ok (.bl false) := q1 (by omega) (by omega)
  have q5 : eqP (.str (tx [41])) (.str (tx [41])) = .ok (.bl true) := q1 (by omega) (by omega)
  have fs := f_shut g hst
  obtain ⟨S, hS⟩ : ∃ S, S = stV st := ⟨_, rfl⟩
  obtain ⟨X, hX⟩ : ∃ X, X = PV.str (tx (41 :: r)) := ⟨_, rfl⟩
  rw [← hX] at i0 s1 ⊢
  rw [← hS] at fs ⊢
  have sN : sSetN 1 (eD F__law_shut (aCons (eV 1) aNil)) [T, .val (.lst S), .val X, .val (.int k), s4, s5] = .next [T, (match shutI st with | some st' => .own (stV st') | none => .val .non), .val X, .val (.int k), s4, s5] := by
    have e : eD F__law_shut (aCons (eV 1) aNil) [T, .val (.lst S), .val X, .val (.int k), s4, s5] = .ok (shutV st) := by
      simp only [eD_eq, aCons_eq, aNil_eq, eVs, eV0, bind1, fs]
    unfold shutV at e
    cases hs : shutI st with
    | none => rw [hs] at e; rw [setN_n e]; rfl
    | some st' => rw [hs] at e; rw [setN_l e]; rfl
  simp only [bSeq_eq, sIf_eq, tB1_eq, e2_eq, eSl_eq, oSome_eq, oNone_eq, asI_eq, eVos, eVo0, eC_eq, bind1, i0, s_open, s_close, q4, q5, asB_eq, stB_ok, if_true, if_neg Bool.false_ne_true, sFrz_eq, frzRS, frzR0, sN, then_next, sSet_eq, subP_ii, st_ok, List.set_cons_succ, List.set_cons_zero, s1, bNil_eq]
/-- the first sign is no bracket and no blank -/
theorem body_word {w B : List Nat} (hl : (w ++ B).length ≤ 1000) (hS : S.length ≤ 1000) (ha : Asc (w ++ B)) (hne : w ≠ []) (hB : EndL B) (hw : ∀ c ∈ w, c ≠ 32 ∧ c ≠ 40 ∧ c ≠ 41) {P : PV} (hP : F__law_part [.str (tx w)] = .ok P)
    {Z : Slot} (hZ : (P = .non ∧ Z = .val .non) ∨ ∃ t : List Nat, P = .lst [.str (tx t), .int 1] ∧ Asc t ∧ Z = .own (S ++ [.lst [.str (tx t), .int 1, .bl (decide (t = w))]])) :
    (bSeq (sIf (tB1 (e2 eqP (e2 ixP (eVo 2) (eC (.int 0))) (eC (.str "(")))) (bSeq (sMut 1 appP (eC (.str "("))) (bSeq (sSet 3 (e2 addP (eVo 3) (eC (.int 1)))) (bSeq (sSet 2 (eSl slP (eVo 2) (oSome (eC (.int 1))) oNone)) bNil))) (bSeq (sIf (tB1 (e2 eqP (e2 ixP (eVo 2) (eC (.int 0))) (eC (.str ")")))) (sFrz 1 (bSeq (sSetN 1 (eD F__law_shut (aCons (eV 1) aNil))) (bSeq (sSet 3 (e2 subP (eVo 3) (eC (.int 1)))) (bSeq (sSet 2 (eSl slP (eVo 2) (oSome (eC (.int 1))) oNone)) bNil)))) (bSeq (sIf (tB1 (e2 eqP (e2 ixP (eVo 2) (eC (.int 0))) (eC (.str " ")))) (bSeq (sMut 1 appP (eSl slP (eVo 2) oNone (oSome (eC (.int 3))))) (bSeq (sSet 2 (eSl slP (eVo 2) (oSome (eC (.int 3))) oNone)) bNil)) (bSeq (sSet 4 (eD F__law_word (aCons (eV 2) aNil))) (bSeq (sSet 5 (eD F__law_part (aCons (eV 4) aNil))) (bSeq (sSet 2 (eSl slP (eVo 2) (oSome (eD lenP (aCons (eVo 4) aNil))) oNone)) (bSeq (sMut 1 appP (eD lstP (aCons (eC (.str "")) (aCons (eC (.int 0)) (aCons (eC (.bl false)) aNil))))) (bSeq (sIf (tB1 (e2 isNP (eVo 5) (eC .non))) (bSeq (sSetN 1 (eC .non)) bNil) (bSeq (sSetI 1 (eD lstP (aCons (e2 ixP (eVo 5) (eC (.int 0))) (aCons (eC (.int 1)) (aCons (e2 eqP (e2 ixP (eVo 5) (eC (.int 0))) (eVo 4)) aNil)))) (e1 negP (eC (.int 1)))) bNil)) bNil)))))) bNil)) bNil)) bNil) [T, .own S, .val (.str (tx (w ++ B))), .val (.int k), s4, s5] = .next [T, Z, .val (.str (tx B)), .val (.int k), .val (.str (tx w)), .val P] := by
  obtain ⟨c, w', rfl⟩ : ∃ c w', w = c :: w' := by
    cases w with
    | nil => exact absurd rfl hne
    | cons c w' => exact ⟨c, w', rfl⟩
  have fw := f_law_word (by omega) hB hw
  have ac : c < 128 := ha c (by simp)
  have hc := hw c List.mem_cons_self
  have i0 : ixP (.str (tx (c :: w' ++ B))) (.int 0) = .ok (.str (tx [c])) := ixP_tx (by omega) rfl (by omega)
  have q4 : eqP (.str (tx [c])) (.str (tx [40])) = .ok (.bl false) := by rw [q1 ac (by omega), decide_eq_false hc.2.1]
  have q5 : eqP (.str (tx [c])) (.str (tx [41])) = .ok (.bl false) := by rw [q1 ac (by omega), decide_eq_false hc.2.2]
  have q6 : eqP (.str (tx [c])) (.str (tx [32])) = .ok (.bl false) := by rw [q1 ac (by omega), decide_eq_false hc.1]
  have lw : (c :: w').length ≤ 1000 := by rw [List.length_append] at hl; omega
  have ln := lenP_tx (l := c :: w') (by omega)
  have aw : Asc (c :: w') := ha.left
  have dr : slP (.str (tx (c :: w' ++ B))) (some (((c :: w').length : Nat) : Int)) none = .ok (.str (tx B)) := by
    rw [slP_tx _ _ (by omega), cut_drop _ _ (by omega), Int.toNat_natCast, List.drop_left']
    rfl
  obtain ⟨w, hw2⟩ : ∃ w, w = c :: w' := ⟨_, rfl⟩
  rw [← hw2] at fw i0 ln dr hP aw hZ ⊢
  have ap := appP_ok (l := S) (p := .lst [.str "", .int 0, .bl false]) (by omega)
  have n1 : negP (.int 1) = .ok (.int (-1)) := by simp
  obtain ⟨X, hX⟩ : ∃ X, X = PV.str (tx (w ++ B)) := ⟨_, rfl⟩
  rw [← hX] at fw i0 dr ⊢
  simp only [bSeq_eq, sIf_eq, tB1_eq, e2_eq, eSl_eq, oSome_eq, oNone_eq, asI_eq, eVs, eV0, eVos, eVo0, eC_eq, eD_eq, aCons_eq, aNil_eq, bind1, i0, s_open, s_close, s_blank, q4, q5, q6, asB_eq, stB_ok, if_neg Bool.false_ne_true, sSet_eq, fw, hP, st_ok, then_next, List.set_cons_succ, List.set_cons_zero, ln, dr, sMut_eq, getOwnS, getOwn0, onOwn_some, l3P, ap, own_ok]
  rcases hZ with ⟨rfl, rfl⟩ | ⟨t, rfl, at', rfl⟩
  · have nn : isNP .non .non = .ok (.bl true) := rfl
    simp only [nn, bind1, asB_eq, stB_ok, if_true, bSeq_eq, setN_n (eC_eq (p := .non)), then_next, bNil_eq, List.set_cons_succ, List.set_cons_zero]
  · have nn : isNP (.lst [.str (tx t), .int 1]) .non = .ok (.bl false) := rfl
    have j0 : ixP (.lst [.str (tx t), .int 1]) (.int 0) = .ok (.str (tx t)) := ixP_l0
    have qt := eqP_tx at' aw
    have sp := setP_last S (.lst [.str "", .int 0, .bl false]) (.lst [.str (tx t), .int 1, .bl (decide (t = w))])
    simp only [nn, bind1, asB_eq, stB_ok, if_neg Bool.false_ne_true, bSeq_eq, sSetI_eq, getOwnS, getOwn0, onOwn_some, eD_eq, aCons_eq, aNil_eq, e2_eq, e1_eq, eVos, eVo0, eC_eq, j0, qt, l3P, st_ok, n1, sp, own_ok, then_next, bNil_eq, List.set_cons_succ, List.set_cons_zero]
end
theorem due_runs {st : List It} {rest : List Nat} {k : Int} {res : Option RT} (h : Runs st rest k res) : (∀ i ∈ st, GdI i) → Asc rest → (src st ++ rest).length ≤ 1000 → ∀ (T s4 s5 : Slot),
    (bSeq (sWh (tAn (tB1 (e2 neP (eVo 2) (eC (.str "")))) (tAn (tB1 (e2 notNP (eVo 1) (eC .non))) (tB1 (e2 leP (eVo 3) (eC (.int 10)))))) (bSeq (sIf (tB1 (e2 eqP (e2 ixP (eVo 2) (eC (.int 0))) (eC (.str "(")))) (bSeq (sMut 1 appP (eC (.str "("))) (bSeq (sSet 3 (e2 addP (eVo 3) (eC (.int 1)))) (bSeq (sSet 2 (eSl slP (eVo 2) (oSome (eC (.int 1))) oNone)) bNil))) (bSeq (sIf (tB1 (e2 eqP (e2 ixP (eVo 2) (eC (.int 0))) (eC (.str ")")))) (sFrz 1 (bSeq (sSetN 1 (eD F__law_shut (aCons (eV 1) aNil))) (bSeq (sSet 3 (e2 subP (eVo 3) (eC (.int 1)))) (bSeq (sSet 2 (eSl slP (eVo 2) (oSome (eC (.int 1))) oNone)) bNil)))) (bSeq (sIf (tB1 (e2 eqP (e2 ixP (eVo 2) (eC (.int 0))) (eC (.str " ")))) (bSeq (sMut 1 appP (eSl slP (eVo 2) oNone (oSome (eC (.int 3))))) (bSeq (sSet 2 (eSl slP (eVo 2) (oSome (eC (.int 3))) oNone)) bNil)) (bSeq (sSet 4 (eD F__law_word (aCons (eV 2) aNil))) (bSeq (sSet 5 (eD F__law_part (aCons (eV 4) aNil))) (bSeq (sSet 2 (eSl slP (eVo 2) (oSome (eD lenP (aCons (eVo 4) aNil))) oNone)) (bSeq (sMut 1 appP (eD lstP (aCons (eC (.str "")) (aCons (eC (.int 0)) (aCons (eC (.bl false)) aNil))))) (bSeq (sIf (tB1 (e2 isNP (eVo 5) (eC .non))) (bSeq (sSetN 1 (eC .non)) bNil) (bSeq (sSetI 1 (eD lstP (aCons (e2 ixP (eVo 5) (eC (.int 0))) (aCons (eC (.int 1)) (aCons (e2 eqP (e2 ixP (eVo 5) (eC (.int 0))) (eVo 4)) aNil)))) (e1 negP (eC (.int 1)))) bNil)) bNil)))))) bNil)) bNil)) bNil)) (bSeq (sIf (tOr' (tB1 (e2 isNP (eVo 1) (eC .non))) (tOr' (tB1 (e2 neP (eVo 2) (eC (.str "")))) (tOr' (tB1 (e2 neP (eD lenP (aCons (eVo 1) aNil)) (eC (.int 1)))) (tOr' (tNt (tB1 (e1 (isiP "list") (e2 ixP (eVo 1) (eC (.int 0)))))) (tB1 (e2 gtP (e2 ixP (e2 ixP (eVo 1) (eC (.int 0))) (eC (.int 1))) (eC (.int 50)))))))) (bSeq (sRet (eC .non)) bNil) bNil) (bSeq (sRet (e2 ixP (e2 ixP (eVo 1) (eC (.int 0))) (eC (.int 0)))) bNil)) [T, .own (stV st), .val (.str (tx rest)), .val (.int k), s4, s5]).res = .ok (resV res) := by
  induction h with
  | stop st k =>
    intro g ha hl T s4 s5
    exact wh_no ((lt_own ha).trans (by rfl)) (end_fin st)
  | deep st rest k hne hk =>
    intro g ha hl T s4 s5
    exact wh_no ((lt_own ha).trans (by rw [decide_eq_false (show ¬ k ≤ 10 by omega)]; simp)) (end_rest ha hne)
  | @opn st r k res k10 _ ih =>
    intro g ha hl T s4 s5
    have ls := src_len st
    rw [List.length_append] at hl
    refine wh_go ((lt_own ha).trans (by rw [decide_eq_true k10]; rfl)) (body_open (by omega) (by rw [stV_len]; omega)) ?_
    have := ih (fun i hi => (List.mem_cons.mp hi).elim (fun e => by rw [e]; exact trivial) (g i)) (ha.drop 1) (by rw [src_cons, List.append_assoc, List.length_append]; exact hl) T s4 s5
    rw [stV_cons] at this
    exact this
  | @shut st st' r k res k10 hs _ ih =>
    intro g ha hl T s4 s5
    have ls := src_len st
    have hl0 := hl
    rw [List.length_append] at hl
    refine wh_go ((lt_own ha).trans (by rw [decide_eq_true k10]; rfl)) (body_shut (by omega) g (by omega)) ?_
    rw [hs]
    obtain ⟨b, x, y, r0, st0, rfl, hm, rfl⟩ := shutI_some hs
    have gx := g (.term x) (by simp)
    have gy := g (.term y) (by simp)
    obtain ⟨m1, _, m3⟩ := mkI_some hm gx.1 gy.1
    have es : src (.term y :: b :: .term x :: .opn :: st0) ++ 41 :: r = src (.term r0 :: st0) ++ r := by
      rw [src_cons, src_cons, src_cons, src_cons, src_cons, show srcI (.term r0) = txR r0 from rfl, m3]
      simp [srcI]
    rw [es] at hl0
    have lr : (txR r0).length ≤ 1000 := by
      have h2 := hl0
      rw [src_cons, List.length_append, List.length_append] at h2
      have : (srcI (.term r0)).length = (txR r0).length := rfl
      omega
    exact ih (fun i hi => (List.mem_cons.mp hi).elim (fun e => by rw [e]; exact ⟨m1, lr⟩) (fun e => g i (by simp [e]))) (ha.drop 1) hl0 T s4 s5
  | @bad st r k k10 hs =>
    intro g ha hl T s4 s5
    have ls := src_len st
    rw [List.length_append] at hl
    refine wh_go ((lt_own ha).trans (by rw [decide_eq_true k10]; rfl)) (body_shut (by omega) g (by omega)) ?_
    rw [hs]
    exact wh_no (lt_non (ha.drop 1)) end_non
  | @sgn st r k res k10 _ ih =>
    intro g ha hl T s4 s5
    have ls := src_len st
    rw [List.length_append] at hl
    have ar : Asc r := ha.drop 1
    refine wh_go ((lt_own ha).trans (by rw [decide_eq_true k10]; rfl)) (body_sgn (by omega) (by rw [stV_len]; omega)) ?_
    have := ih (fun i hi => (List.mem_cons.mp hi).elim (fun e => by rw [e]; exact ⟨ar.take 2, by rw [List.length_take]; omega⟩) (g i)) (ar.drop 2) (by
      rw [src_cons, show srcI (.sgn (r.take 2)) = 32 :: r.take 2 from rfl, List.append_assoc, List.cons_append, List.take_append_drop, List.length_append]; exact hl) T s4 s5
    rw [stV_cons] at this
    exact this
  | @word st w B k bare a b res k10 ok ew hw hB _ ih =>
    intro g ha hl T s4 s5
    have ls := src_len st
    have hl0 := hl
    rw [List.length_append] at hl
    have hne : w ≠ [] := fun z => by have := txR_pos (.part bare a b); rw [← ew, z] at this; simp at this
    have fp := f_law_part ok
    rw [← ew] at fp
    have ld : decide (w ++ B = []) = false := decide_eq_false fun z => hne (List.append_eq_nil_iff.mp z).1
    have lw : w.length ≤ 1000 := by rw [List.length_append] at hl; omega
    refine wh_go ((lt_own ha).trans (by rw [decide_eq_true k10, ld]; rfl)) (body_word (by omega) (by rw [stV_len]; omega) ha hne hB hw fp (.inr ⟨_, rfl, sh_asc ok, rfl⟩)) ?_
    have e : encI (.term (.part bare a b)) = .lst [.str (tx (shT (enR (.part bare a b)))), .int 1, .bl (decide (shT (enR (.part bare a b)) = w))] := by
      rw [ew]
      cases bare <;> rfl
    have := ih (fun i hi => (List.mem_cons.mp hi).elim (fun e => by rw [e]; exact ⟨ok, by rw [← ew]; exact lw⟩) (g i)) ha.right (by
      rw [src_cons, show srcI (.term (.part bare a b)) = txR (.part bare a b) from rfl, ← ew, List.append_assoc]; exact hl0) T (.val (.str (tx w))) (.val (.lst [.str (tx (shT (enR (.part bare a b)))), .int 1]))
    rw [stV_cons, e] at this
    exact this
  | @badw st w B k k10 hne no hw hB =>
    intro g ha hl T s4 s5
    have ls := src_len st
    rw [List.length_append] at hl
    have ld : decide (w ++ B = []) = false := decide_eq_false fun z => hne (List.append_eq_nil_iff.mp z).1
    have lw : w.length ≤ 1000 := by rw [List.length_append] at hl; omega
    have fp := f_law_part_no ha.left (by omega) no
    refine wh_go ((lt_own ha).trans (by rw [decide_eq_true k10, ld]; rfl)) (body_word (by omega) (by rw [stV_len]; omega) ha hne hB hw fp (.inl ⟨rfl, rfl⟩)) ?_
    exact wh_no (lt_non ha.right) end_non
theorem f_due {L : List Nat} (ha : Asc L) (hl : L.length ≤ 1000) {res : Option RT} (h : Runs [] L 0 res) : F__law_due [.str (tx L)] = .ok (resV res) := by
  refine (runF_eq (n := 6) (u := D__law_due)).trans ?_
  show (D__law_due [.val (.str (tx L)), .un, .un, .un, .un, .un]).res = _
  have d := due_runs h (fun _ z => nomatch z) ha (by show ([] ++ L : List Nat).length ≤ 1000; exact hl) (.val (.str (tx L))) .un .un
  have l0 : lstP [] = .ok (.lst []) := rfl
  unfold D__law_due
  refine stpN (ρ' := [.val (.str (tx L)), .own [], .un, .un, .un, .un]) (by simp only [sSetO_eq, eD_eq, aNil_eq, bind1, l0, st_ok, asL_l, own_ok, List.set_cons_succ, List.set_cons_zero]) ?_
  refine stp (.str (tx L)) (by simp only [eV0]) ?_
  simp only [List.set_cons_succ, List.set_cons_zero]
  refine stp (.int 0) (by simp only [eC_eq]) ?_
  simp only [List.set_cons_succ, List.set_cons_zero]
  exact d
theorem seqS {i : Nat} {f : Rho → R PV} {k : Rho → Out} {ρ : Rho} (p : PV) (h : f ρ = .ok p) : bSeq (sSet i f) k ρ = k (ρ.set i (.val p)) := by rw [bSeq_eq, sSet_eq, h]; rfl
theorem seqF {t : Rho → R Bool} {u k : Rho → Out} {ρ : Rho} (h : t ρ = .ok false) : bSeq (sIf t u bNil) k ρ = k ρ := by rw [bSeq_eq, sIf_eq, h]; rfl
theorem seqT {t : Rho → R Bool} {u v k : Rho → Out} {ρ ρ1 : Rho} (h : t ρ = .ok true) (hu : u ρ = .next ρ1) : bSeq (sIf t u v) k ρ = k ρ1 := by
  rw [bSeq_eq, sIf_eq, h]
  simp only [stB_ok, if_true, hu, then_next]
theorem seqV {t : Rho → R Bool} {u v k : Rho → Out} {ρ ρ1 : Rho} (h : t ρ = .ok false) (hv : v ρ = .next ρ1) : bSeq (sIf t u v) k ρ = k ρ1 := by
  rw [bSeq_eq, sIf_eq, h]
  simp only [stB_ok, if_neg Bool.false_ne_true, hv, then_next]
def strT (l : List Nat) : PV := .str (tx l)
theorem cutM1 {l : List PV} {a : PV} : cutG (l ++ [a]) none (some (-1)) = l := by
  unfold cutG
  have e1 : HT.sIx (l ++ [a]).length (l ++ [a]).length (some (-1)) = l.length := by
    unfold HT.sIx; dsimp only; rw [if_pos (by omega)]; simp; omega
  have e2 : HT.sIx (l ++ [a]).length 0 none = 0 := rfl
  rw [e1, e2]
  simp
theorem cutM2 {l : List PV} {a b : PV} : cutG (l ++ [a, b]) none (some (-2)) = l := by
  unfold cutG
  have e1 : HT.sIx (l ++ [a, b]).length (l ++ [a, b]).length (some (-2)) = l.length := by
    unfold HT.sIx; dsimp only; rw [if_pos (by omega)]; simp; omega
  have e2 : HT.sIx (l ++ [a, b]).length 0 none = 0 := rfl
  rw [e1, e2]
  simp
/-- what a text's stack is -/
structure TxS (k : Nat) (S : List (List Nat)) : Prop where
  ne : S ≠ []
  len : S.length ≤ k + 1
  asc : ∀ l ∈ S, Asc l
  sum : S.flatten.length ≤ 1 + 8 * k
theorem text_turn (c : Int) {k : Nat} {S : List (List Nat)} (h : TxS k S) (hk : k ≤ 20) (s0 s3 : Slot) : ∃ S2 w, (bSeq (sSet 3 (eD strP (aCons (e2 subP (e2 modP (e2 fdivP (eVo 2) (eC (.int 7))) (eC (.int 31))) (eC (.int 15))) aNil))) (bSeq (sIf (tB1 (e2 eqP (e2 modP (eVo 2) (eC (.int 7))) (eC (.int 6)))) (bSeq (sSet 3 (e2 addP (e2 addP (eVo 3) (eC (.str "/"))) (eD strP (aCons (e2 addP (eC (.int 1)) (e2 modP (e2 fdivP (eVo 2) (eC (.int 217))) (eC (.int 12)))) aNil)))) bNil) bNil) (bSeq (sIf (tAn (tB1 (e2 ltP (e2 modP (eVo 2) (eC (.int 7))) (eC (.int 4)))) (tB1 (e2 gtP (eD lenP (aCons (eVo 1) aNil)) (eC (.int 1))))) (bSeq (sSet 3 (e2 addP (e2 addP (e2 addP (e2 addP (eC (.str "(")) (e2 ixP (eVo 1) (e1 negP (eC (.int 2))))) (e2 ixP (eD lstP (aCons (eC (.str " + ")) (aCons (eC (.str " - ")) (aCons (eC (.str " * ")) (aCons (eC (.str " : ")) aNil))))) (e2 modP (eVo 2) (eC (.int 7))))) (e2 ixP (eVo 1) (e1 negP (eC (.int 1))))) (eC (.str ")")))) (bSeq (sSetO 1 (eSl slL (eVo 1) oNone (oSome (e1 negP (eC (.int 2)))))) bNil)) (bSeq (sIf (tB1 (e2 eqP (e2 modP (eVo 2) (eC (.int 7))) (eC (.int 4)))) (bSeq (sSet 3 (e2 addP (e2 addP (e2 addP (e2 addP (eC (.str "(")) (e2 ixP (eVo 1) (e1 negP (eC (.int 1))))) (eC (.str " ^ "))) (eD strP (aCons (e2 addP (eC (.int 1)) (e2 modP (e2 fdivP (eVo 2) (eC (.int 7))) (eC (.int 5)))) aNil))) (eC (.str ")")))) (bSeq (sSetO 1 (eSl slL (eVo 1) oNone (oSome (e1 negP (eC (.int 1)))))) bNil)) bNil) bNil)) (bSeq (sMut 1 appP (eV 3)) bNil)))) [s0, .own (S.map strT), .val (.int c), s3] = .next [s0, .own (S2.map strT), .val (.int c), .val w] ∧ TxS (k + 1) S2 := by
  have d7 := fdivP_sm (a := c) (b := 7) (by omega) (by omega)
  have m31 := modP_pos (a := c / 7) (b := 31) (by omega)
  have m7 := modP_pos (a := c) (b := 7) (by omega)
  have d217 := fdivP_sm (a := c) (b := 217) (by omega) (by omega)
  have m12 := modP_pos (a := c / 217) (b := 12) (by omega)
  have m5 := modP_pos (a := c / 7) (b := 5) (by omega)
  obtain ⟨i, hi⟩ : ∃ i, i = c / 7 % 31 - 15 := ⟨_, rfl⟩
  obtain ⟨d, hd⟩ : ∃ d, d = 1 + c / 217 % 12 := ⟨_, rfl⟩
  obtain ⟨e, he⟩ : ∃ e, e = 1 + c / 7 % 5 := ⟨_, rfl⟩
  have i15 : i.natAbs < 10 ^ 2 := by omega
  have d12 : d.natAbs < 10 ^ 2 := by omega
  have e5 : e.natAbs < 10 ^ 1 := by omega
  have si := str_num (i := i) (by omega)
  have sd := str_num (i := d) (by omega)
  have se := str_num (i := e) (by omega)
  have li := numT_len i (k := 2) (by omega) i15
  have ld := numT_len d (k := 2) (by omega) d12
  have le := numT_len e (k := 1) (by omega) e5
  obtain ⟨w, hw, aw, lw⟩ : ∃ w : List Nat, w = (if c % 7 = 6 then numT i ++ [47] ++ numT d else numT i) ∧ Asc w ∧ w.length ≤ 7 := by
    refine ⟨_, rfl, ?_, ?_⟩
    · split
      · exact ((numT_asc i).app (asc1 (by omega))).app (numT_asc d)
      · exact numT_asc i
    · split
      · simp; omega
      · omega
  have st1 : ∀ K : Rho → Out, bSeq (sSet 3 (eD strP (aCons (e2 subP (e2 modP (e2 fdivP (eVo 2) (eC (.int 7))) (eC (.int 31))) (eC (.int 15))) aNil))) (bSeq (sIf (tB1 (e2 eqP (e2 modP (eVo 2) (eC (.int 7))) (eC (.int 6)))) (bSeq (sSet 3 (e2 addP (e2 addP (eVo 3) (eC (.str "/"))) (eD strP (aCons (e2 addP (eC (.int 1)) (e2 modP (e2 fdivP (eVo 2) (eC (.int 217))) (eC (.int 12)))) aNil)))) bNil) bNil) K) [s0, .own (S.map strT), .val (.int c), s3] = K [s0, .own (S.map strT), .val (.int c), .val (strT w)] := fun K => by
    rw [seqS (.str (tx (numT i))) (by simp only [eD_eq, aCons_eq, aNil_eq, e2_eq, eVos, eVo0, eC_eq, bind1, d7, m31, subP_ii, ← hi, si])]
    simp only [List.set_cons_succ, List.set_cons_zero]
    by_cases c6 : c % 7 = 6
    · rw [if_pos c6] at hw
      have a1 := addP_tx (a := numT i) (b := [47]) (by simp; omega)
      have a2 := addP_tx (a := numT i ++ [47]) (b := numT d) (by simp; omega)
      have b6 : (c % 7 == 6) = true := by rw [beq_iff_eq]; exact c6
      rw [seqT (ρ1 := [s0, .own (S.map strT), .val (.int c), .val (strT w)]) (by simp only [tB1_eq, e2_eq, eVos, eVo0, eC_eq, bind1, m7, eqP_ii, b6, asB_eq])]
      rw [seqS (strT w) (by rw [hw]; simp only [e2_eq, eD_eq, aCons_eq, aNil_eq, eVos, eVo0, eC_eq, bind1, s_stroke, a1, d217, m12, addP_ii, ← hd, sd, a2]; rfl)]
      simp only [List.set_cons_succ, List.set_cons_zero, bNil_eq]
    · rw [if_neg c6] at hw
      have b6 : (c % 7 == 6) = false := by rw [beq_eq_false_iff_ne]; exact c6
      rw [seqF (by simp only [tB1_eq, e2_eq, eVos, eVo0, eC_eq, bind1, m7, eqP_ii, b6, asB_eq]), hw]
      rfl
  have LL : lenP [.lst (S.map strT)] = .ok (.int S.length) := by rw [lenP_l, List.length_map]
  have ap : ∀ {S2 : List (List Nat)} {v : List Nat}, S2.length ≤ 100 → (bSeq (sMut 1 appP (eV 3)) bNil) [s0, .own (S2.map strT), .val (.int c), .val (strT v)] = .next [s0, .own ((S2 ++ [v]).map strT), .val (.int c), .val (strT v)] := fun {S2 v} h2 => by
    have a := appP_ok (l := S2.map strT) (p := strT v) (by rw [List.length_map]; omega)
    simp only [bSeq_eq, sMut_eq, getOwnS, getOwn0, onOwn_some, eVs, eV0, st_ok, a, own_ok, List.set_cons_succ, List.set_cons_zero, then_next, bNil_eq, List.map_append, List.map_cons, List.map_nil]
  have hS := h.len
  have sum := h.sum
  obtain ⟨S1, x, rfl⟩ : ∃ S1 x, S = S1 ++ [x] := ⟨S.dropLast, S.getLast h.ne, (List.dropLast_concat_getLast h.ne).symm⟩
  have ax := h.asc x (by simp)
  have fx : (S1 ++ [x]).flatten.length = S1.flatten.length + x.length := by simp
  rw [fx] at sum
  have mx : (S1 ++ [x]).map strT = S1.map strT ++ [strT x] := by simp
  have x1 : ixP (.lst ((S1 ++ [x]).map strT)) (.int (-1)) = .ok (.str (tx x)) := by rw [mx]; exact ixP_last _ _
  have n1 : negP (.int 1) = .ok (.int (-1)) := by simp
  have n2 : negP (.int 2) = .ok (.int (-2)) := by simp
  rw [st1]
  by_cases c4 : c % 7 < 4 ∧ S1 ≠ []
  · obtain ⟨c4, hne⟩ := c4
    obtain ⟨S0, y, rfl⟩ : ∃ S0 y, S1 = S0 ++ [y] := ⟨S1.dropLast, S1.getLast hne, (List.dropLast_concat_getLast hne).symm⟩
    have ay := h.asc y (by simp)
    have fy : (S0 ++ [y]).flatten.length = S0.flatten.length + y.length := by simp
    rw [fy] at sum
    have lt : (1 : Int) < ((S0 ++ [y] ++ [x]).length : Int) := by simp; omega
    have mxy : (S0 ++ [y] ++ [x]).map strT = S0.map strT ++ [strT y, strT x] := by simp
    have y2 : ixP (.lst ((S0 ++ [y] ++ [x]).map strT)) (.int (-2)) = .ok (.str (tx y)) := by rw [mxy]; exact ixP_last2 _ _ _
    have sl : slL (.lst ((S0 ++ [y] ++ [x]).map strT)) none (some (-2)) = .ok (.lst (S0.map strT)) := by rw [slL_l, mxy, cutM2]
    obtain ⟨g, hg, sgn⟩ : ∃ g, g < 128 ∧ ixP (.lst [.str " + ", .str " - ", .str " * ", .str " : "]) (.int (c % 7)) = .ok (.str (tx [32, g, 32])) := by
      rw [s_plus, s_minus, s_star, s_col3]
      have kk : c % 7 = 0 ∨ c % 7 = 1 ∨ c % 7 = 2 ∨ c % 7 = 3 := by omega
      rcases kk with z | z | z | z <;> rw [z]
      · exact ⟨43, by omega, rfl⟩
      · exact ⟨45, by omega, rfl⟩
      · exact ⟨42, by omega, rfl⟩
      · exact ⟨58, by omega, rfl⟩
    obtain ⟨v, hv⟩ : ∃ v, v = [40] ++ y ++ [32, g, 32] ++ x ++ [41] := ⟨_, rfl⟩
    have a1 := addP_tx (a := [40]) (b := y) (by simp; omega)
    have a2 := addP_tx (a := [40] ++ y) (b := [32, g, 32]) (by simp; omega)
    have a3 := addP_tx (a := [40] ++ y ++ [32, g, 32]) (b := x) (by simp; omega)
    have a4 := addP_tx (a := [40] ++ y ++ [32, g, 32] ++ x) (b := [41]) (by simp; omega)
    rw [← hv] at a4
    have l4 : ∀ a b c d : PV, lstP [a, b, c, d] = .ok (.lst [a, b, c, d]) := fun _ _ _ _ => rfl
    refine ⟨S0 ++ [v], strT v, ?_, ?_⟩
    · obtain ⟨W, hW⟩ : ∃ W, W = (S0 ++ [y] ++ [x]).map strT := ⟨_, rfl⟩
      rw [← hW] at x1 y2 sl LL ⊢
      rw [seqT (ρ1 := [s0, .own (S0.map strT), .val (.int c), .val (strT v)]) (by simp only [tAn_eq, tB1_eq, e2_eq, eD_eq, aCons_eq, aNil_eq, eVos, eVo0, eVo0', eC_eq, bind1, m7, ltP_ii, decide_eq_true c4, asB_eq, if_true, LL, gtP_ii, decide_eq_true lt])]
      · exact ap (by simp at hS; omega)
      · rw [seqS (strT v) (by simp only [e2_eq, e1_eq, eD_eq, aCons_eq, aNil_eq, eVos, eVo0, eVo0', eC_eq, bind1, s_open, s_close, n2, n1, y2, x1, l4, m7, sgn, a1, a2, a3, a4]; rfl)]
        simp only [List.set_cons_succ, List.set_cons_zero, bSeq_eq, sSetO_eq, eSl_eq, oNone_eq, oSome_eq, e1_eq, eVos, eVo0', eC_eq, bind1, n2, asI_eq, sl, st_ok, asL_l, own_ok, then_next, bNil_eq]
    · refine ⟨by simp, by simp at hS ⊢; omega, fun l hl => ?_, ?_⟩
      · rcases List.mem_append.mp hl with z | z
        · exact h.asc l (by simp [z])
        · rw [List.mem_singleton.mp z, hv]
          exact ((((asc1 (by omega)).app ay).app (asc3 hg)).app ax).app (asc1 (by omega))
      · rw [hv]
        simp
        simp at sum
        omega
  · have tF : (tAn (tB1 (e2 ltP (e2 modP (eVo 2) (eC (.int 7))) (eC (.int 4)))) (tB1 (e2 gtP (eD lenP (aCons (eVo 1) aNil)) (eC (.int 1))))) [s0, .own ((S1 ++ [x]).map strT), .val (.int c), .val (strT w)] = .ok false := by
      by_cases c4' : c % 7 < 4
      · have e : S1 = [] := Classical.byContradiction fun z => c4 ⟨c4', z⟩
        have gt : ¬ (1 : Int) < ((S1 ++ [x]).length : Int) := by rw [e]; simp
        simp only [tAn_eq, tB1_eq, e2_eq, eD_eq, aCons_eq, aNil_eq, eVos, eVo0, eVo0', eC_eq, bind1, m7, ltP_ii, decide_eq_true c4', asB_eq, if_true, LL, gtP_ii, decide_eq_false gt]
      · simp only [tAn_eq, tB1_eq, e2_eq, eVos, eVo0, eC_eq, bind1, m7, ltP_ii, decide_eq_false c4', asB_eq, if_neg Bool.false_ne_true]
    by_cases c44 : c % 7 = 4
    · have b4 : (c % 7 == 4) = true := by rw [beq_iff_eq]; exact c44
      have sl : slL (.lst ((S1 ++ [x]).map strT)) none (some (-1)) = .ok (.lst (S1.map strT)) := by rw [slL_l, mx, cutM1]
      obtain ⟨v, hv⟩ : ∃ v, v = [40] ++ x ++ [32, 94, 32] ++ numT e ++ [41] := ⟨_, rfl⟩
      have a1 := addP_tx (a := [40]) (b := x) (by simp; omega)
      have a2 := addP_tx (a := [40] ++ x) (b := [32, 94, 32]) (by simp; omega)
      have a3 := addP_tx (a := [40] ++ x ++ [32, 94, 32]) (b := numT e) (by simp; omega)
      have a4 := addP_tx (a := [40] ++ x ++ [32, 94, 32] ++ numT e) (b := [41]) (by simp; omega)
      rw [← hv] at a4
      refine ⟨S1 ++ [v], strT v, ?_, ?_⟩
      · obtain ⟨W, hW⟩ : ∃ W, W = (S1 ++ [x]).map strT := ⟨_, rfl⟩
        rw [← hW] at x1 sl tF ⊢
        rw [seqV (ρ1 := [s0, .own (S1.map strT), .val (.int c), .val (strT v)]) tF]
        · exact ap (by simp at hS; omega)
        · rw [seqT (ρ1 := [s0, .own (S1.map strT), .val (.int c), .val (strT v)]) (by simp only [tB1_eq, e2_eq, eVos, eVo0, eC_eq, bind1, m7, eqP_ii, b4, asB_eq])]
          · rfl
          · rw [seqS (strT v) (by simp only [e2_eq, e1_eq, eD_eq, aCons_eq, aNil_eq, eVos, eVo0, eVo0', eC_eq, bind1, s_open, s_close, s_hat, n1, x1, d7, m5, addP_ii, ← he, se, a1, a2, a3, a4]; rfl)]
            simp only [List.set_cons_succ, List.set_cons_zero, bSeq_eq, sSetO_eq, eSl_eq, oNone_eq, oSome_eq, e1_eq, eVos, eVo0', eC_eq, bind1, n1, asI_eq, sl, st_ok, asL_l, own_ok, then_next, bNil_eq]
      · refine ⟨by simp, by simp at hS ⊢; omega, fun l hl => ?_, ?_⟩
        · rcases List.mem_append.mp hl with z | z
          · exact h.asc l (by simp [z])
          · rw [List.mem_singleton.mp z, hv]
            exact ((((asc1 (by omega)).app ax).app (asc3 (by omega))).app (numT_asc e)).app (asc1 (by omega))
        · rw [hv]
          simp
          simp at sum
          omega
    · have b4 : (c % 7 == 4) = false := by rw [beq_eq_false_iff_ne]; exact c44
      refine ⟨S1 ++ [x] ++ [w], strT w, ?_, ?_⟩
      · rw [seqV (ρ1 := [s0, .own ((S1 ++ [x]).map strT), .val (.int c), .val (strT w)]) tF]
        · exact ap (by simp at hS ⊢; omega)
        · rw [seqF (by simp only [tB1_eq, e2_eq, eVos, eVo0, eC_eq, bind1, m7, eqP_ii, b4, asB_eq])]
          rfl
      · refine ⟨by simp, by simp at hS ⊢; omega, fun l hl => ?_, ?_⟩
        · rcases List.mem_append.mp hl with z | z
          · exact h.asc l z
          · rw [List.mem_singleton.mp z]; exact aw
        · simp
          simp at sum
          omega
theorem f_text (cs : List Int) (hl : cs.length ≤ 15) {P : PV} (hP : asS P = .ok (cs.map PV.int)) : ∃ L, F__law_text [P] = .ok (.str (tx L)) ∧ Asc L ∧ L.length ≤ 130 := by
  have go : ∀ {r}, (D__law_text [.val P, .un, .un, .un]).res = r → F__law_text [P] = r := fun h => (runF_eq (n := 4) (u := D__law_text)).trans h
  have s1 : Str.ofString "1" = tx [49] := by decide +kernel
  obtain ⟨ρ', f1, b1⟩ := forL_inv (tgt := gN 2) (body := (bSeq (sSet 3 (eD strP (aCons (e2 subP (e2 modP (e2 fdivP (eVo 2) (eC (.int 7))) (eC (.int 31))) (eC (.int 15))) aNil))) (bSeq (sIf (tB1 (e2 eqP (e2 modP (eVo 2) (eC (.int 7))) (eC (.int 6)))) (bSeq (sSet 3 (e2 addP (e2 addP (eVo 3) (eC (.str "/"))) (eD strP (aCons (e2 addP (eC (.int 1)) (e2 modP (e2 fdivP (eVo 2) (eC (.int 217))) (eC (.int 12)))) aNil)))) bNil) bNil) (bSeq (sIf (tAn (tB1 (e2 ltP (e2 modP (eVo 2) (eC (.int 7))) (eC (.int 4)))) (tB1 (e2 gtP (eD lenP (aCons (eVo 1) aNil)) (eC (.int 1))))) (bSeq (sSet 3 (e2 addP (e2 addP (e2 addP (e2 addP (eC (.str "(")) (e2 ixP (eVo 1) (e1 negP (eC (.int 2))))) (e2 ixP (eD lstP (aCons (eC (.str " + ")) (aCons (eC (.str " - ")) (aCons (eC (.str " * ")) (aCons (eC (.str " : ")) aNil))))) (e2 modP (eVo 2) (eC (.int 7))))) (e2 ixP (eVo 1) (e1 negP (eC (.int 1))))) (eC (.str ")")))) (bSeq (sSetO 1 (eSl slL (eVo 1) oNone (oSome (e1 negP (eC (.int 2)))))) bNil)) (bSeq (sIf (tB1 (e2 eqP (e2 modP (eVo 2) (eC (.int 7))) (eC (.int 4)))) (bSeq (sSet 3 (e2 addP (e2 addP (e2 addP (e2 addP (eC (.str "(")) (e2 ixP (eVo 1) (e1 negP (eC (.int 1))))) (eC (.str " ^ "))) (eD strP (aCons (e2 addP (eC (.int 1)) (e2 modP (e2 fdivP (eVo 2) (eC (.int 7))) (eC (.int 5)))) aNil))) (eC (.str ")")))) (bSeq (sSetO 1 (eSl slL (eVo 1) oNone (oSome (e1 negP (eC (.int 1)))))) bNil)) bNil) bNil)) (bSeq (sMut 1 appP (eV 3)) bNil))))) (fun k ρ => k ≤ 15 → ∃ S s2 s3, ρ = [.val P, .own (S.map strT), s2, s3] ∧ TxS k S) (cs.map PV.int) 0 [.val P, .own ([[49]].map strT), .un, .un] (fun _ => ⟨[[49]], .un, .un, rfl, by simp, by simp, fun l hl => by rw [List.mem_singleton.mp hl]; exact asc1 (by omega), by simp⟩) (fun j p ρ hj hI => by
      rw [Nat.zero_add] at hI ⊢
      rw [List.getElem?_map] at hj
      by_cases j14 : j ≤ 14
      · obtain ⟨S, s2, s3, rfl, hS⟩ := hI (by omega)
        cases hc : cs[j]? with
        | none => rw [hc] at hj; cases hj
        | some c =>
          rw [hc] at hj
          cases hj
          obtain ⟨S2, w, e, h2⟩ := text_turn c hS (by omega) (.val P) s3
          refine ⟨_, .inl ?_, fun _ => ⟨S2, .val (.int c), .val w, rfl, h2⟩⟩
          unfold turnL
          exact e
      · have : j < cs.length := by
          apply Classical.byContradiction
          intro z
          rw [List.getElem?_eq_none (by omega)] at hj
          cases hj
        omega)
  obtain ⟨S, c2, c3, hρ, hS⟩ := b1 (by rw [List.length_map]; omega)
  rw [List.length_map, Nat.zero_add] at hS
  subst hρ
  obtain ⟨S1, x, rfl⟩ : ∃ S1 x, S = S1 ++ [x] := ⟨S.dropLast, S.getLast hS.ne, (List.dropLast_concat_getLast hS.ne).symm⟩
  have mx : (S1 ++ [x]).map strT = S1.map strT ++ [strT x] := by simp
  have x1 : ixP (.lst ((S1 ++ [x]).map strT)) (.int (-1)) = .ok (.str (tx x)) := by rw [mx]; exact ixP_last _ _
  have n1 : negP (.int 1) = .ok (.int (-1)) := by simp
  have sum := hS.sum
  refine ⟨x, go ?_, hS.asc x (by simp), ?_⟩
  · unfold D__law_text
    refine stpN (ρ' := [.val P, .own ([[49]].map strT), .un, .un]) (by simp only [sSetO_eq, eD_eq, aCons_eq, aNil_eq, eC_eq, bind1, s1, l1P, st_ok, asL_l, own_ok, List.set_cons_succ, List.set_cons_zero]; rfl) ?_
    refine stpFor (cs.map PV.int) _ (by simp only [iS_eq, eV0, bind1, hP]) f1 ?_
    simp only [bSeq_eq, sRet_eq, e2_eq, e1_eq, eVos, eVo0', eC_eq, bind1, n1, x1, st_ok, then_ret, res_ret]
  · simp at sum
    omega
def sgL : List (List Nat) := [[48], [49], [57], [40], [41], [32], [43], [45], [42], [58], [94], [47], [32, 43, 32], [32, 94, 32, 50], [97], [95], [46], [32, 32], [9]]
theorem sg_str : (["0", "1", "9", "(", ")", " ", "+", "-", "*", ":", "^", "/", " + ", " ^ 2", "a", "_", ".", "  ", "\t"] : List String).map Str.ofString = sgL.map tx := by decide +kernel
theorem sg_pv : ([.str "0", .str "1", .str "9", .str "(", .str ")", .str " ", .str "+", .str "-", .str "*", .str ":", .str "^", .str "/", .str " + ", .str " ^ 2", .str "a", .str "_", .str ".", .str "  ", .str "\t"] : List PV) = sgL.map strT := by
  have e := congrArg (List.map PV.str) sg_str
  rw [List.map_map, List.map_map] at e
  exact e
theorem sg_good : ∀ l ∈ sgL, (∀ c ∈ l, c < 128) ∧ l.length ≤ 4 := by decide
theorem l19 (a b c d e f g h i j k l m n o p q r s : PV) : lstP [a, b, c, d, e, f, g, h, i, j, k, l, m, n, o, p, q, r, s] = .ok (.lst [a, b, c, d, e, f, g, h, i, j, k, l, m, n, o, p, q, r, s]) := rfl
theorem f_spoiled {L : List Nat} (c m : Int) (ha : Asc L) (hl : L.length ≤ 500) : ∃ L2, F__law_spoiled [.str (tx L), .int c, .int m] = .ok (.str (tx L2)) ∧ Asc L2 ∧ L2.length ≤ L.length + 4 := by
  have go : ∀ {r}, (D__law_spoiled [.val (.str (tx L)), .val (.int c), .val (.int m), .un, .un]).res = r → F__law_spoiled [.str (tx L), .int c, .int m] = r := fun h => (runF_eq (n := 5) (u := D__law_spoiled)).trans h
  have d3 := fdivP_sm (a := c) (b := 3) (by omega) (by omega)
  have m3 := modP_pos (a := c) (b := 3) (by omega)
  have ml := modP_pos (a := c / 3) (b := (L.length : Int) + 1) (by omega)
  have m19 := modP_pos (a := m) (b := 19) (by omega)
  have ln := lenP_tx (l := L) (by omega)
  obtain ⟨t, ht⟩ : ∃ t, t = c / 3 % ((L.length : Int) + 1) := ⟨_, rfl⟩
  have t0 : 0 ≤ t := by rw [ht]; exact Int.emod_nonneg _ (by omega)
  have t1 : t < (L.length : Int) + 1 := by rw [ht]; exact Int.emod_lt_of_pos _ (by omega)
  obtain ⟨g, hg⟩ : ∃ g, sgL[(m % 19).toNat]? = some g := by
    have : (m % 19).toNat < sgL.length := by show (m % 19).toNat < 19; omega
    exact ⟨_, List.getElem?_eq_getElem this⟩
  obtain ⟨g1, g2⟩ := sg_good g (List.mem_of_getElem? hg)
  have ig : ixP (.lst (sgL.map strT)) (.int (m % 19)) = .ok (.str (tx g)) := ixP_lst (by omega) (by rw [List.getElem?_map, hg]; rfl)
  have s1 : slP (.str (tx L)) none (some t) = .ok (.str (tx (L.take t.toNat))) := by rw [slP_tx _ _ (by omega), cut_take _ _ t0]
  have s2 : slP (.str (tx L)) (some t) none = .ok (.str (tx (L.drop t.toNat))) := by rw [slP_tx _ _ (by omega), cut_drop _ _ t0]
  have s3 : slP (.str (tx L)) (some (t + 1)) none = .ok (.str (tx (L.drop (t + 1).toNat))) := by rw [slP_tx _ _ (by omega), cut_drop _ _ (by omega)]
  have l1 : (L.take t.toNat).length ≤ L.length := by rw [List.length_take]; omega
  have l2 : (L.take t.toNat).length + (L.drop t.toNat).length = L.length := by rw [← List.length_append, List.take_append_drop]
  have l3 : (L.drop (t + 1).toNat).length ≤ (L.drop t.toNat).length := by rw [List.length_drop, List.length_drop]; omega
  have a1 := addP_tx (a := L.take t.toNat) (b := g) (by omega)
  have a2 := addP_tx (a := L.take t.toNat ++ g) (b := L.drop t.toNat) (by rw [List.length_append]; omega)
  have a3 := addP_tx (a := L.take t.toNat) (b := L.drop (t + 1).toNat) (by omega)
  have a4 := addP_tx (a := L.take t.toNat ++ g) (b := L.drop (t + 1).toNat) (by rw [List.length_append]; omega)
  have head : ∀ {r : R PV}, ((bSeq (sIf (tB1 (e2 eqP (e2 modP (eVo 1) (eC (.int 3))) (eC (.int 0)))) (bSeq (sRet (e2 addP (e2 addP (eSl slP (eVo 0) oNone (oSome (eV 4))) (e2 ixP (eVo 3) (e2 modP (eVo 2) (eC (.int 19))))) (eSl slP (eVo 0) (oSome (eV 4)) oNone))) bNil) bNil) (bSeq (sIf (tB1 (e2 eqP (e2 modP (eVo 1) (eC (.int 3))) (eC (.int 1)))) (bSeq (sRet (e2 addP (eSl slP (eVo 0) oNone (oSome (eV 4))) (eSl slP (eVo 0) (oSome (e2 addP (eVo 4) (eC (.int 1)))) oNone))) bNil) bNil) (bSeq (sRet (e2 addP (e2 addP (eSl slP (eVo 0) oNone (oSome (eV 4))) (e2 ixP (eVo 3) (e2 modP (eVo 2) (eC (.int 19))))) (eSl slP (eVo 0) (oSome (e2 addP (eVo 4) (eC (.int 1)))) oNone))) bNil))) [.val (.str (tx L)), .val (.int c), .val (.int m), .val (.lst (sgL.map strT)), .val (.int t)]).res = r → F__law_spoiled [.str (tx L), .int c, .int m] = r := fun h => by
    refine go ?_
    unfold D__law_spoiled
    refine stp (.lst (sgL.map strT)) (by simp only [eD_eq, aCons_eq, aNil_eq, eC_eq, bind1, l19]; rw [sg_pv]) ?_
    simp only [List.set_cons_succ, List.set_cons_zero]
    refine stp (.int t) (by simp only [e2_eq, eD_eq, aCons_eq, aNil_eq, eVos, eVo0, eC_eq, bind1, d3, ln, addP_ii, ml, ← ht]) ?_
    simp only [List.set_cons_succ, List.set_cons_zero]
    exact h
  obtain ⟨X, hX⟩ : ∃ X, X = PV.str (tx L) := ⟨_, rfl⟩
  rw [← hX] at s1 s2 s3 head ⊢
  have aT := ha.take t.toNat
  have aD := ha.drop t.toNat
  have aE := ha.drop (t + 1).toNat
  obtain ⟨W, hW⟩ : ∃ W, W = PV.lst (sgL.map strT) := ⟨_, rfl⟩
  rw [← hW] at ig head
  by_cases c0 : c % 3 = 0
  · have b0 : (c % 3 == 0) = true := by rw [beq_iff_eq]; exact c0
    refine ⟨L.take t.toNat ++ g ++ L.drop t.toNat, head ?_, (aT.app g1).app aD, by rw [List.length_append, List.length_append]; omega⟩
    refine ifT (by simp only [tB1_eq, e2_eq, eVos, eVo0, eC_eq, bind1, m3, eqP_ii, b0, asB_eq]) ?_
    simp only [bSeq_eq, sRet_eq, e2_eq, eSl_eq, oNone_eq, oSome_eq, asI_eq, eVs, eV0, eVos, eVo0, eC_eq, bind1, s1, m19, ig, s2, a1, a2, st_ok, then_ret, res_ret]
  · have b0 : (c % 3 == 0) = false := by rw [beq_eq_false_iff_ne]; exact c0
    by_cases c1 : c % 3 = 1
    · have b1 : (c % 3 == 1) = true := by rw [beq_iff_eq]; exact c1
      refine ⟨L.take t.toNat ++ L.drop (t + 1).toNat, head ?_, aT.app aE, by rw [List.length_append]; omega⟩
      refine skp (by simp only [tB1_eq, e2_eq, eVos, eVo0, eC_eq, bind1, m3, eqP_ii, b0, asB_eq]) ?_
      refine ifT (by simp only [tB1_eq, e2_eq, eVos, eVo0, eC_eq, bind1, m3, eqP_ii, b1, asB_eq]) ?_
      simp only [bSeq_eq, sRet_eq, e2_eq, eSl_eq, oNone_eq, oSome_eq, asI_eq, eVs, eV0, eVos, eVo0, eC_eq, bind1, addP_ii, s1, s3, a3, st_ok, then_ret, res_ret]
    · have b1 : (c % 3 == 1) = false := by rw [beq_eq_false_iff_ne]; exact c1
      refine ⟨L.take t.toNat ++ g ++ L.drop (t + 1).toNat, head ?_, (aT.app g1).app aE, by rw [List.length_append, List.length_append]; omega⟩
      refine skp (by simp only [tB1_eq, e2_eq, eVos, eVo0, eC_eq, bind1, m3, eqP_ii, b0, asB_eq]) ?_
      refine skp (by simp only [tB1_eq, e2_eq, eVos, eVo0, eC_eq, bind1, m3, eqP_ii, b1, asB_eq]) ?_
      simp only [bSeq_eq, sRet_eq, e2_eq, eSl_eq, oNone_eq, oSome_eq, asI_eq, eVs, eV0, eVos, eVo0, eC_eq, bind1, addP_ii, s1, m19, ig, s3, a1, a4, st_ok, then_ret, res_ret]
theorem rep_asc {l : List Nat} (h : Asc l) : ∀ n : Nat, Asc (List.replicate n l).flatten
  | 0 => Asc.nil
  | n + 1 => by rw [List.replicate_succ, List.flatten_cons]; exact h.app (rep_asc h n)
theorem rep_len (l : List Nat) : ∀ n : Nat, (List.replicate n l).flatten.length = n * l.length
  | 0 => by simp
  | n + 1 => by rw [List.replicate_succ, List.flatten_cons, List.length_append, rep_len l n, Nat.add_mul]; omega
theorem repS_tx {l : List Nat} {k : Int} (h2 : 2 ≤ k) (h3 : k ≤ 1000) (h1 : 1 ≤ l.length) (hl : l.length ≤ 1000) : repS (.str (tx l)) (.int k) = .ok (.str (tx (List.replicate k.toNat l).flatten)) := repS_ok h2 h3 h1 hl
theorem asc_of {l : List Nat} (h : l.all (fun c => decide (c < 128)) = true) : Asc l := fun c hc => of_decide_eq_true (List.all_eq_true.mp h c hc)
theorem b1 : Str.ofString "((" = tx [40, 40] := by decide +kernel
theorem b2 : Str.ofString "(1 ^ 7)" = tx [40, 49, 32, 94, 32, 55, 41] := by decide +kernel
theorem b3 : Str.ofString " ^ 7) + " = tx [32, 94, 32, 55, 41, 32, 43, 32] := by decide +kernel
theorem b4 : Str.ofString "1" = tx [49] := by decide +kernel
theorem b5 : Str.ofString "(1 + 1)" = tx [40, 49, 32, 43, 32, 49, 41] := by decide +kernel
theorem b6 : Str.ofString "(1 ^ 1)" = tx [40, 49, 32, 94, 32, 49, 41] := by decide +kernel
theorem b7 : Str.ofString "(1 ^ 2)" = tx [40, 49, 32, 94, 32, 50, 41] := by decide +kernel
theorem b8 : Str.ofString " + 1)" = tx [32, 43, 32, 49, 41] := by decide +kernel
theorem b9 : Str.ofString "1/" = tx [49, 47] := by decide +kernel
theorem f_border (c : Int) : ∃ L, F__law_border [.int c] = .ok (.str (tx L)) ∧ Asc L ∧ L.length ≤ 400 := by
  have go : ∀ {r}, (D__law_border [.val (.int c), .un]).res = r → F__law_border [.int c] = r := fun h => (runF_eq (n := 2) (u := D__law_border)).trans h
  have d4 := fdivP_sm (a := c) (b := 4) (by omega) (by omega)
  have d16 := fdivP_sm (a := c) (b := 16) (by omega) (by omega)
  have m4 := modP_pos (a := c) (b := 4) (by omega)
  have m44 := modP_pos (a := c / 4) (b := 4) (by omega)
  have m2 := modP_pos (a := c / 16) (b := 2) (by omega)
  obtain ⟨k, hk⟩ : ∃ k, k = c / 4 % 4 := ⟨_, rfl⟩
  have k03 : 0 ≤ k ∧ k ≤ 3 := by omega
  have hset : ∀ {r : R PV} {K : Rho → Out}, (K [.val (.int c), .val (.int k)]).res = r → (bSeq (sSet 1 (e2 modP (e2 fdivP (eVo 0) (eC (.int 4))) (eC (.int 4)))) K [.val (.int c), .un]).res = r := fun {r K} h => by
    refine stp (.int k) (by simp only [e2_eq, eVo0, eC_eq, bind1, d4, m44, ← hk]) ?_
    simp only [List.set_cons_succ, List.set_cons_zero]
    exact h
  have l4 : ∀ a b c d : PV, lstP [a, b, c, d] = .ok (.lst [a, b, c, d]) := fun _ _ _ _ => rfl
  by_cases c0 : c % 4 = 0
  · have q0 : (c % 4 == 0) = true := by rw [beq_iff_eq]; exact c0
    obtain ⟨n, hn⟩ : ∃ n : Nat, 9 + k = (n : Int) := ⟨(9 + k).toNat, by omega⟩
    have r1 := repS_tx (l := [40]) (k := (n : Int)) (by omega) (by omega) (by simp) (by simp)
    have r2 := repS_tx (l := [32, 43, 32, 49, 41]) (k := (n : Int)) (by omega) (by omega) (by simp) (by simp)
    rw [Int.toNat_natCast] at r1 r2
    have z1 := rep_len [40] n
    have z2 := rep_len [32, 43, 32, 49, 41] n
    simp only [List.length_cons, List.length_nil] at z1 z2
    have w1 := rep_asc (l := [40]) (asc1 (by omega)) n
    have w2 := rep_asc (l := [32, 43, 32, 49, 41]) (asc_of (by decide)) n
    generalize (List.replicate n [40]).flatten = U at *
    generalize (List.replicate n [32, 43, 32, 49, 41]).flatten = V at *
    have a1 := addP_tx (a := U) (b := [49]) (by simp; omega)
    have a2 := addP_tx (a := U ++ [49]) (b := V) (by simp; omega)
    refine ⟨U ++ [49] ++ V, go ?_, (w1.app (asc1 (by omega))).app w2, by simp; omega⟩
    unfold D__law_border
    refine hset (ifT (by simp only [tB1_eq, e2_eq, eVo0, eC_eq, bind1, m4, eqP_ii, q0, asB_eq]) ?_)
    simp only [bSeq_eq, sRet_eq, e2_eq, eVos, eVo0, eC_eq, bind1, addP_ii, hn, s_open, b8, b4, r1, r2, a1, a2, st_ok, then_ret, res_ret]
  have q0 : (c % 4 == 0) = false := by rw [beq_eq_false_iff_ne]; exact c0
  by_cases c1 : c % 4 = 1
  · have q1 : (c % 4 == 1) = true := by rw [beq_iff_eq]; exact c1
    obtain ⟨e, he, ae, le⟩ : ∃ e, ixP (.lst [.str (tx [49]), .str (tx [40, 49, 32, 43, 32, 49, 41]), .str (tx [40, 49, 32, 94, 32, 49, 41]), .str (tx [40, 49, 32, 94, 32, 50, 41])]) (.int k) = .ok (.str (tx e)) ∧ Asc e ∧ e.length ≤ 7 := by
      have kk : k = 0 ∨ k = 1 ∨ k = 2 ∨ k = 3 := by omega
      rcases kk with z | z | z | z <;> rw [z]
      · exact ⟨_, rfl, asc1 (by omega), by simp⟩
      · exact ⟨_, rfl, asc_of (by decide), by simp⟩
      · exact ⟨_, rfl, asc_of (by decide), by simp⟩
      · exact ⟨_, rfl, asc_of (by decide), by simp⟩
    have a1 := addP_tx (a := [40, 40]) (b := [40, 49, 32, 94, 32, 55, 41]) (by simp)
    have a2 := addP_tx (a := [40, 40] ++ [40, 49, 32, 94, 32, 55, 41]) (b := [32, 94, 32, 55, 41, 32, 43, 32]) (by simp)
    have a3 := addP_tx (a := [40, 40] ++ [40, 49, 32, 94, 32, 55, 41] ++ [32, 94, 32, 55, 41, 32, 43, 32]) (b := e) (by simp; omega)
    have a4 := addP_tx (a := [40, 40] ++ [40, 49, 32, 94, 32, 55, 41] ++ [32, 94, 32, 55, 41, 32, 43, 32] ++ e) (b := [41]) (by simp; omega)
    refine ⟨[40, 40] ++ [40, 49, 32, 94, 32, 55, 41] ++ [32, 94, 32, 55, 41, 32, 43, 32] ++ e ++ [41], go ?_, (Asc.app (asc_of (by decide)) ae).app (asc1 (by omega)), by simp; omega⟩
    unfold D__law_border
    refine hset (skp (by simp only [tB1_eq, e2_eq, eVo0, eC_eq, bind1, m4, eqP_ii, q0, asB_eq]) (ifT (by simp only [tB1_eq, e2_eq, eVo0, eC_eq, bind1, m4, eqP_ii, q1, asB_eq]) ?_))
    simp only [bSeq_eq, sRet_eq, e2_eq, eD_eq, aCons_eq, aNil_eq, eVos, eVo0, eC_eq, bind1, s_close, b1, b2, b3, b4, b5, b6, b7, l4, he, a1, a2, a3, a4, st_ok, then_ret, res_ret]
  have q1 : (c % 4 == 1) = false := by rw [beq_eq_false_iff_ne]; exact c1
  obtain ⟨n, hn⟩ : ∃ n : Nat, 19 + k = (n : Int) := ⟨(19 + k).toNat, by omega⟩
  have r1 := repS_tx (l := [49]) (k := (n : Int)) (by omega) (by omega) (by simp) (by simp)
  rw [Int.toNat_natCast] at r1
  have z1 := rep_len [49] n
  simp only [List.length_cons, List.length_nil] at z1
  have w1 := rep_asc (l := [49]) (asc1 (by omega)) n
  generalize (List.replicate n [49]).flatten = U at *
  by_cases c2 : c % 4 = 2
  · have q2 : (c % 4 == 2) = true := by rw [beq_iff_eq]; exact c2
    obtain ⟨e, he, ae, le⟩ : ∃ e, ixP (.lst [.str (tx []), .str (tx [45])]) (.int (c / 16 % 2)) = .ok (.str (tx e)) ∧ Asc e ∧ e.length ≤ 1 := by
      have kk : c / 16 % 2 = 0 ∨ c / 16 % 2 = 1 := by omega
      rcases kk with z | z <;> rw [z]
      · exact ⟨_, rfl, Asc.nil, by simp⟩
      · exact ⟨_, rfl, asc1 (by omega), by simp⟩
    have a1 := addP_tx (a := e) (b := U) (by omega)
    refine ⟨e ++ U, go ?_, ae.app w1, by simp; omega⟩
    unfold D__law_border
    refine hset (skp (by simp only [tB1_eq, e2_eq, eVo0, eC_eq, bind1, m4, eqP_ii, q0, asB_eq]) (skp (by simp only [tB1_eq, e2_eq, eVo0, eC_eq, bind1, m4, eqP_ii, q1, asB_eq]) (ifT (by simp only [tB1_eq, e2_eq, eVo0, eC_eq, bind1, m4, eqP_ii, q2, asB_eq]) ?_)))
    simp only [bSeq_eq, sRet_eq, e2_eq, eD_eq, aCons_eq, aNil_eq, eVos, eVo0, eC_eq, bind1, s_empty, s_dash, b4, l2P, d16, m2, he, addP_ii, hn, r1, a1, st_ok, then_ret, res_ret]
  · have q2 : (c % 4 == 2) = false := by rw [beq_eq_false_iff_ne]; exact c2
    have a1 := addP_tx (a := [49, 47]) (b := U) (by simp; omega)
    refine ⟨[49, 47] ++ U, go ?_, Asc.app (asc_of (by decide)) w1, by simp; omega⟩
    unfold D__law_border
    refine hset (skp (by simp only [tB1_eq, e2_eq, eVo0, eC_eq, bind1, m4, eqP_ii, q0, asB_eq]) (skp (by simp only [tB1_eq, e2_eq, eVo0, eC_eq, bind1, m4, eqP_ii, q1, asB_eq]) (skp (by simp only [tB1_eq, e2_eq, eVo0, eC_eq, bind1, m4, eqP_ii, q2, asB_eq]) ?_)))
    simp only [bSeq_eq, sRet_eq, e2_eq, eVos, eVo0, eC_eq, bind1, b9, b4, addP_ii, hn, r1, a1, st_ok, then_ret, res_ret]
theorem f_others (a : Addr) : F__law_others "NoText" a = .ok (.bl false) := by
  refine (runX_eq (n := 2) (g := D__law_others "NoText" a)).trans ?_
  show (D__law_others "NoText" a [.ex a, .un]).res = _
  have k1 : subX "NoText" "NoPrime" = false := by decide
  have k2 : subX "NoText" "NoPlace" = false := by decide
  have k3 : subX "NoText" "NoFigures" = false := by decide
  have k4 : subX "NoText" "NoFraction" = false := by decide
  have k5 : subX "NoText" "Unlike" = false := by decide
  have k6 : subX "NoText" "NoQuotient" = false := by decide
  have k7 : subX "NoText" "NoPower" = false := by decide
  have k8 : subX "NoText" "TooFew" = false := by decide
  have k9 : subX "NoText" "NoSize" = false := by decide
  have k10 : subX "NoText" "NoPolynomial" = false := by decide
  have k11 : subX "NoText" "NoDepth" = false := by decide
  have k12 : subX "NoText" "NoRoot" = false := by decide
  have k13 : subX "NoText" "NotNear" = false := by decide
  have a1 : addP (.lst [.bl false, .bl false, .bl false, .bl false]) (.lst [.bl false, .bl false, .bl false, .bl false]) = .ok (.lst [.bl false, .bl false, .bl false, .bl false, .bl false, .bl false, .bl false, .bl false]) := addP_ok (by simp)
  have a2 : addP (.lst [.bl false, .bl false, .bl false, .bl false, .bl false, .bl false, .bl false, .bl false]) (.lst [.bl false, .bl false, .bl false, .bl false]) = .ok (.lst [.bl false, .bl false, .bl false, .bl false, .bl false, .bl false, .bl false, .bl false, .bl false, .bl false, .bl false, .bl false]) := addP_ok (by simp)
  have a3 : anyP [.lst [.bl false, .bl false, .bl false, .bl false, .bl false, .bl false, .bl false, .bl false, .bl false, .bl false, .bl false, .bl false]] = .ok (.bl false) := anyP_bl (List.replicate 12 false)
  simp [D__law_others, k1, k2, k3, k4, k5, k6, k7, k8, k9, k10, k11, k12, k13, a1, a2, a3]
theorem f_refused {M : Str → Addr} {p : PV} (h : F_read_term M [p] = .exc "NoText") : F__law_refused M [p] = .ok (.bl true) := by
  refine (runF_eq (n := 3) (u := D__law_refused M)).trans ?_
  show (D__law_refused M [.val p, .un, .un]).res = _
  have k1 : subX "NoText" "NoText" = true := by decide
  have k2 : subX "NoText" "ValueError" = true := by decide
  unfold D__law_refused
  refine stp (.bl false) rfl ?_
  simp only [List.set_cons_succ, List.set_cons_zero]
  have t : sTry 2 csL (bSeq (sDrop (eD (F_read_term M) (aCons (eV 0) aNil))) bNil) (fun c a => (bSeq (sSet 1 (eAn (isX 2 a (subX c "NoText")) (eAn (isX 2 a (subX c "ValueError")) (e1 notP (hotC 2 a (F__law_others c)))))) bNil)) [.val p, .val (.bl false), .un] = .next [.val p, .val (.bl true), .un] :=
    sTry_exc (c := "NoText") (ρ' := [.val p, .val (.bl false), .un]) (by simp [h]) (by decide) fun a => by
      simp [k1, k2, hotC0 (f_others a)]
  rw [bSeq_eq, t]
  simp
theorem read_no {M : Str → Addr} {p : PV} (h : isiP "str" p = .ok (.bl false)) : F_read_term M [p] = .exc "NoText" := by
  refine (runF_eq (n := 3) (u := D_read_term M)).trans ?_
  show (D_read_term M [.val p, .un, .un]).res = _
  unfold D_read_term
  refine ifT (by simp only [tNt_eq, tB1_eq, e1_eq, eVo0, bind1, h, asB_eq]; rfl) ?_
  simp
/-- one text: read just where the law's stack finds it -/
theorem law_end {M : Str → Addr} (hM : (cs6 M).Nodup) {L : List Nat} (ha : Asc L) (hl : L.length ≤ 1000) (s0 s1 s3 : Slot) :
    ((bSeq (sSet 3 (eD F__law_due (aCons (eV 2) aNil))) (bSeq (sIf (tB1 (e2 isNP (eVo 3) (eC .non))) (bSeq (sRet (eD (F__law_refused M) (aCons (eV 2) aNil))) bNil) bNil) (bSeq (sRet (e2 eqP (eMeth "shown" (cs6 M) (G_shown M 14) (eD (F_read_term M) (aCons (eV 2) aNil)) aNil) (eVo 3))) bNil))) [s0, s1, .val (.str (tx L)), s3]).res = .ok (.bl true) := by
  obtain ⟨res, hr⟩ := runs_all L.length [] L 0 (Nat.le_refl _)
  have fd := f_due ha hl hr
  cases res with
  | none =>
    have fd : F__law_due [.str (tx L)] = .ok .non := fd
    have rd : F_read_term M [.str (tx L)] = .exc "NoText" := by
      rcases read_term_any hM ha hl with z | ⟨x, ok, e, hd, hw⟩
      · exact z
      · obtain ⟨r', h2⟩ := runs_whole ok hd hw
        rw [← e] at h2
        have f2 := f_due ha hl h2
        rw [fd] at f2
        cases f2
    have rf := f_refused rd
    have nn : isNP .non .non = .ok (.bl true) := rfl
    generalize PV.str (tx L) = X at *
    refine stp .non (by simp only [eD_eq, aCons_eq, aNil_eq, eVs, eV0, bind1, fd]) ?_
    simp only [List.set_cons_succ, List.set_cons_zero]
    refine ifT (by simp only [tB1_eq, e2_eq, eVos, eVo0, eC_eq, bind1, nn, asB_eq]) ?_
    simp only [bSeq_eq, sRet_eq, eD_eq, aCons_eq, aNil_eq, eVs, eV0, bind1, rf, st_ok, then_ret, res_ret]
  | some r =>
    have fd : F__law_due [.str (tx L)] = .ok (.str (tx (shT (enR r)))) := fd
    obtain ⟨e, ok, hd, hw⟩ := runs_sound hr (by rfl) trivial r rfl
    have e : L = txR r := e
    have rt := f_read_term (M := M) hM ok (by rw [← e]; omega) hd hw
    rw [← e] at rt
    have lsh := sh_len ok
    rw [← e] at lsh
    have sh := g_shown hM (w20_en ok) (by omega) (n := 14) (by rw [dep_en]; omega)
    have as2 := sh_asc ok
    have q := eqP_tx as2 as2
    rw [decide_eq_true rfl] at q
    have nn : isNP (.str (tx (shT (enR r)))) .non = .ok (.bl false) := rfl
    generalize PV.str (tx L) = X at *
    generalize PV.str (tx (shT (enR r))) = Y at *
    refine stp Y (by simp only [eD_eq, aCons_eq, aNil_eq, eVs, eV0, bind1, fd]) ?_
    simp only [List.set_cons_succ, List.set_cons_zero]
    refine skp (by simp only [tB1_eq, e2_eq, eVos, eVo0, eC_eq, bind1, nn, asB_eq]) ?_
    have vm : eMeth "shown" (cs6 M) (G_shown M 14) (eD (F_read_term M) (aCons (eV 2) aNil)) aNil [s0, s1, .val X, .val Y] = .ok Y := by
      rw [eMeth_ok (ps := []) (show eD (F_read_term M) (aCons (eV 2) aNil) [s0, s1, .val X, .val Y] = .ok (.obj (M (clsT (enR r))) (fldN (enR r)) (fldV M (enR r))) by simp only [eD_eq, aCons_eq, aNil_eq, eVs, eV0, bind1, rt, enc_eq]) (cls6 M (enR r)) (no_meth (.inr (.inr (.inl rfl))) (enR r)) rfl, ← enc_eq]; exact sh
    simp only [bSeq_eq, sRet_eq, e2_eq, vm, eVos, eVo0, bind1, q, st_ok, then_ret, res_ret]
theorem law_true : ∀ M : Str → Addr, (cs6 M).Nodup → ∀ ns : List Int, ns.length ≤ 63 → (∀ z ∈ ns, z.natAbs.log2 < 1048577) → F_law M [.frz (ns.map PV.int)] = .ok (.bl true) := by
  intro M hM ns _ _
  obtain ⟨S, hS⟩ : ∃ S, S = PV.frz (ns.map PV.int) := ⟨_, rfl⟩
  have c0 := f_cell ns 0 (by omega)
  have c1 := f_cell ns 1 (by omega)
  have c2 := f_cell ns 2 (by omega)
  have sl : slP S (some 3) (some 18) = .ok (.lst (((ns.drop 3).take 15).map PV.int)) := by
    rw [hS, slP_f, cut_both _ _ _ (by omega) (by omega), ← List.map_drop, ← List.map_take]; rfl
  rw [← hS] at c0 c1 c2 ⊢
  obtain ⟨C, hC⟩ : ∃ C, C = nth ns 0 := ⟨_, rfl⟩
  obtain ⟨C1, hC1⟩ : ∃ C1, C1 = nth ns 1 := ⟨_, rfl⟩
  obtain ⟨C2, hC2⟩ : ∃ C2, C2 = nth ns 2 := ⟨_, rfl⟩
  rw [← hC] at c0
  rw [← hC1] at c1
  rw [← hC2] at c2
  have m12 := modP_pos (a := C) (b := 12) (by omega)
  have d12 := fdivP_sm (a := C) (b := 12) (by omega) (by omega)
  have m5 := modP_pos (a := C / 12) (b := 5) (by omega)
  have m6 := modP_pos (a := C) (b := 6) (by omega)
  have m3 := modP_pos (a := C) (b := 3) (by omega)
  have d19 := fdivP_sm (a := C2) (b := 19) (by omega) (by omega)
  have d5 := fdivP_sm (a := C1) (b := 5) (by omega) (by omega)
  refine (runF_eq (n := 4) (u := D_law M)).trans ?_
  show (D_law M [.val S, .un, .un, .un]).res = _
  unfold D_law
  refine stp (.int C) (by simp only [eD_eq, aCons_eq, aNil_eq, eV0, eC_eq, bind1, c0]) ?_
  simp only [List.set_cons_succ, List.set_cons_zero]
  by_cases h11 : C % 12 = 11
  · have b11 : (C % 12 == 11) = true := by rw [beq_iff_eq]; exact h11
    refine ifT (by simp only [tB1_eq, e2_eq, eVos, eVo0, eC_eq, bind1, m12, eqP_ii, b11, asB_eq]) ?_
    have l5 : ∀ a b c d e : PV, lstP [a, b, c, d, e] = .ok (.lst [a, b, c, d, e]) := fun _ _ _ _ _ => rfl
    obtain ⟨p, hp, np⟩ : ∃ p, ixP (.lst [.non, .int 7, .lst [.str "1"], .bl true, .tup [.int 1, .int 1]]) (.int (C / 12 % 5)) = .ok p ∧ isiP "str" p = .ok (.bl false) := by
      have kk : C / 12 % 5 = 0 ∨ C / 12 % 5 = 1 ∨ C / 12 % 5 = 2 ∨ C / 12 % 5 = 3 ∨ C / 12 % 5 = 4 := by omega
      rcases kk with z | z | z | z | z <;> rw [z]
      · exact ⟨_, rfl, rfl⟩
      · exact ⟨_, rfl, rfl⟩
      · exact ⟨_, rfl, rfl⟩
      · exact ⟨_, rfl, rfl⟩
      · exact ⟨_, rfl, rfl⟩
    have rf := f_refused (read_no (M := M) np)
    simp only [bSeq_eq, sRet_eq, eD_eq, aCons_eq, aNil_eq, e2_eq, eVos, eVo0, eC_eq, bind1, l1P, t2P, l5, d12, m5, hp, rf, st_ok, then_ret, res_ret]
  have b11 : (C % 12 == 11) = false := by rw [beq_eq_false_iff_ne]; exact h11
  refine skp (by simp only [tB1_eq, e2_eq, eVos, eVo0, eC_eq, bind1, m12, eqP_ii, b11, asB_eq]) ?_
  obtain ⟨L, fL, aL, lL⟩ := f_text ((ns.drop 3).take 15) (by rw [List.length_take]; omega) (P := .lst (((ns.drop 3).take 15).map PV.int)) rfl
  refine stp (.str (tx L)) (by simp only [eD_eq, aCons_eq, aNil_eq, eSl_eq, oSome_eq, eVo0, eC_eq, asI_eq, bind1, sl, fL]) ?_
  simp only [List.set_cons_succ, List.set_cons_zero]
  obtain ⟨L1, e1, aL1, lL1⟩ : ∃ L1, sIf (tB1 (e2 eqP (e2 modP (eVo 1) (eC (.int 6))) (eC (.int 2)))) (bSeq (sSet 2 (eD F__law_border (aCons (e2 fdivP (eVo 1) (eC (.int 12))) aNil))) bNil) (bSeq (sIf (tB1 (e2 gtP (e2 modP (eVo 1) (eC (.int 3))) (eC (.int 0)))) (bSeq (sSet 2 (eD F__law_spoiled (aCons (eV 2) (aCons (eD F__law_cell_at (aCons (eV 0) (aCons (eC (.int 1)) aNil))) (aCons (eD F__law_cell_at (aCons (eV 0) (aCons (eC (.int 2)) aNil))) aNil))))) bNil) bNil) bNil) [.val S, .val (.int C), .val (.str (tx L)), .un] = .next [.val S, .val (.int C), .val (.str (tx L1)), .un] ∧ Asc L1 ∧ L1.length ≤ 400 := by
    by_cases h2 : C % 6 = 2
    · have b2 : (C % 6 == 2) = true := by rw [beq_iff_eq]; exact h2
      obtain ⟨L1, f1, a1, l1⟩ := f_border (C / 12)
      refine ⟨L1, ?_, a1, l1⟩
      simp only [sIf_eq, tB1_eq, e2_eq, eVos, eVo0, eC_eq, bind1, m6, eqP_ii, b2, asB_eq, stB_ok, if_true, bSeq_eq, sSet_eq, eD_eq, aCons_eq, aNil_eq, d12, f1, st_ok, then_next, bNil_eq, List.set_cons_succ, List.set_cons_zero]
    · have b2 : (C % 6 == 2) = false := by rw [beq_eq_false_iff_ne]; exact h2
      by_cases h3 : 0 < C % 3
      · obtain ⟨L1, f1, a1, l1⟩ := f_spoiled C1 C2 aL (by omega)
        refine ⟨L1, ?_, a1, by omega⟩
        simp only [sIf_eq, tB1_eq, e2_eq, eVs, eV0, eVos, eVo0, eC_eq, bind1, m6, eqP_ii, b2, asB_eq, stB_ok, if_neg Bool.false_ne_true, bSeq_eq, m3, gtP_ii, decide_eq_true h3, if_true, sSet_eq, eD_eq, aCons_eq, aNil_eq, c1, c2, f1, st_ok, then_next, bNil_eq, List.set_cons_succ, List.set_cons_zero]
      · refine ⟨L, ?_, aL, by omega⟩
        simp only [sIf_eq, tB1_eq, e2_eq, eVos, eVo0, eC_eq, bind1, m6, eqP_ii, b2, asB_eq, stB_ok, if_neg Bool.false_ne_true, bSeq_eq, m3, gtP_ii, decide_eq_false h3, then_next, bNil_eq]
  refine stpN e1 ?_
  by_cases h5 : C % 6 = 5
  · have b5 : (C % 6 == 5) = true := by rw [beq_iff_eq]; exact h5
    obtain ⟨L2, f2, a2, l2⟩ := f_spoiled (C2 / 19) (C1 / 5) aL1 (by omega)
    refine stpC (ρ' := [.val S, .val (.int C), .val (.str (tx L2)), .un]) true (by simp only [tB1_eq, e2_eq, eVos, eVo0, eC_eq, bind1, m6, eqP_ii, b5, asB_eq]) (fun _ => by
      simp only [bSeq_eq, sSet_eq, eD_eq, aCons_eq, aNil_eq, e2_eq, eVs, eV0, eC_eq, bind1, c1, c2, d19, d5, f2, st_ok, then_next, bNil_eq, List.set_cons_succ, List.set_cons_zero]) (fun z => by cases z) ?_
    exact law_end hM a2 (by omega) _ _ _
  · have b5 : (C % 6 == 5) = false := by rw [beq_eq_false_iff_ne]; exact h5
    refine skp (by simp only [tB1_eq, e2_eq, eVos, eVo0, eC_eq, bind1, m6, eqP_ii, b5, asB_eq]) ?_
    exact law_end hM aL1 (by omega) _ _ _
end K92
set_option Elab.async false
set_option linter.all false
set_option maxRecDepth 100000
set_option autoImplicit false
set_option maxHeartbeats 0
namespace K92
open PySem PySem.Spec L2 PL PM
open PyProof.Rows hiding St
def topS (i : Nat) : Stmt := PySem.Challenge.pw_leftnumbers_k92_terms_refused.main.body.getD i (.Pass ⟨0, 0, 0, 0⟩)
abbrev st_is_whole : Stmt := topS 18
theorem sc_is_whole : FnScope ["thing"] ["thing"] (defScope st_is_whole) := ⟨rfl, rfl, rfl, by decide +kernel, rfl, by decide +kernel, by decide +kernel⟩
abbrev st_divisor : Stmt := topS 20
theorem sc_divisor : FnScope ["one", "other"] ["one", "other"] (defScope st_divisor) := ⟨rfl, rfl, rfl, by decide +kernel, rfl, by decide +kernel, by decide +kernel⟩
abbrev st_fraction : Stmt := topS 21
theorem sc_fraction : FnScope ["top", "bottom", "share"] ["top", "bottom"] (defScope st_fraction) := ⟨rfl, rfl, rfl, by decide +kernel, rfl, by decide +kernel, by decide +kernel⟩
abbrev st_number_of : Stmt := topS 34
theorem sc_number_of : FnScope ["word", "figures", "sign"] ["word"] (defScope st_number_of) := ⟨rfl, rfl, rfl, by decide +kernel, rfl, by decide +kernel, by decide +kernel⟩
abbrev st_whole_of : Stmt := topS 39
theorem sc_whole_of : FnScope ["word"] ["word"] (defScope st_whole_of) := ⟨rfl, rfl, rfl, by decide +kernel, rfl, by decide +kernel, by decide +kernel⟩
abbrev st_part_of : Stmt := topS 40
theorem sc_part_of : FnScope ["word", "top", "stroke", "bottom"] ["word"] (defScope st_part_of) := ⟨rfl, rfl, rfl, by decide +kernel, rfl, by decide +kernel, by decide +kernel⟩
abbrev st_word_at : Stmt := topS 41
theorem sc_word_at : FnScope ["text", "at", "stop"] ["text", "at"] (defScope st_word_at) := ⟨rfl, rfl, rfl, by decide +kernel, rfl, by decide +kernel, by decide +kernel⟩
abbrev st_of_two : Stmt := topS 42
theorem sc_of_two : FnScope ["sign", "one", "other"] ["sign", "one", "other"] (defScope st_of_two) := ⟨rfl, rfl, rfl, by decide +kernel, rfl, by decide +kernel, by decide +kernel⟩
abbrev st_read_deed : Stmt := topS 43
theorem sc_read_deed : FnScope ["text", "at", "depth", "one", "sign", "digit", "made", "other"] ["text", "at", "depth"] (defScope st_read_deed) := ⟨rfl, rfl, rfl, by decide +kernel, rfl, by decide +kernel, by decide +kernel⟩
abbrev st_read_at : Stmt := topS 44
theorem sc_read_at : FnScope ["text", "at", "depth", "word"] ["text", "at", "depth"] (defScope st_read_at) := ⟨rfl, rfl, rfl, by decide +kernel, rfl, by decide +kernel, by decide +kernel⟩
abbrev st_read_term : Stmt := topS 45
theorem sc_read_term : FnScope ["text", "found", "at"] ["text"] (defScope st_read_term) := ⟨rfl, rfl, rfl, by decide +kernel, rfl, by decide +kernel, by decide +kernel⟩
abbrev st__law_cell_at : Stmt := topS 47
theorem sc__law_cell_at : FnScope ["_law_script", "_law_k"] ["_law_script", "_law_k"] (defScope st__law_cell_at) := ⟨rfl, rfl, rfl, by decide +kernel, rfl, by decide +kernel, by decide +kernel⟩
abbrev st__law_text : Stmt := topS 48
theorem sc__law_text : FnScope ["_law_cells", "_law_stack", "_law_cell", "_law_word_here"] ["_law_cells"] (defScope st__law_text) := ⟨rfl, rfl, rfl, by decide +kernel, rfl, by decide +kernel, by decide +kernel⟩
abbrev st__law_spoiled : Stmt := topS 49
theorem sc__law_spoiled : FnScope ["_law_text_here", "_law_cell", "_law_more", "_law_signs", "_law_at"] ["_law_text_here", "_law_cell", "_law_more"] (defScope st__law_spoiled) := ⟨rfl, rfl, rfl, by decide +kernel, rfl, by decide +kernel, by decide +kernel⟩
abbrev st__law_border : Stmt := topS 50
theorem sc__law_border : FnScope ["_law_cell", "_law_many"] ["_law_cell"] (defScope st__law_border) := ⟨rfl, rfl, rfl, by decide +kernel, rfl, by decide +kernel, by decide +kernel⟩
abbrev st__law_is_whole : Stmt := topS 51
theorem sc__law_is_whole : FnScope ["_law_word_here", "_law_figures", "_law_sign"] ["_law_word_here"] (defScope st__law_is_whole) := ⟨rfl, rfl, rfl, by decide +kernel, rfl, by decide +kernel, by decide +kernel⟩
abbrev st__law_part : Stmt := topS 52
theorem sc__law_part : FnScope ["_law_word_here", "_law_top", "_law_stroke", "_law_bottom", "_law_part_here"] ["_law_word_here"] (defScope st__law_part) := ⟨rfl, rfl, rfl, by decide +kernel, rfl, by decide +kernel, by decide +kernel⟩
abbrev st__law_word : Stmt := topS 53
theorem sc__law_word : FnScope ["_law_text_here", "_law_stop"] ["_law_text_here"] (defScope st__law_word) := ⟨rfl, rfl, rfl, by decide +kernel, rfl, by decide +kernel, by decide +kernel⟩
abbrev st__law_shut : Stmt := topS 54
theorem sc__law_shut : FnScope ["_law_stack", "_law_one", "_law_sign", "_law_other", "_law_weight"] ["_law_stack"] (defScope st__law_shut) := ⟨rfl, rfl, rfl, by decide +kernel, rfl, by decide +kernel, by decide +kernel⟩
abbrev st__law_due : Stmt := topS 55
theorem sc__law_due : FnScope ["_law_text_here", "_law_stack", "_law_rest", "_law_open_ones", "_law_word_here", "_law_part_here"] ["_law_text_here"] (defScope st__law_due) := ⟨rfl, rfl, rfl, by decide +kernel, rfl, by decide +kernel, by decide +kernel⟩
abbrev st__law_others : Stmt := topS 56
theorem sc__law_others : FnScope ["_law_e", "_law_some"] ["_law_e"] (defScope st__law_others) := ⟨rfl, rfl, rfl, by decide +kernel, rfl, by decide +kernel, by decide +kernel⟩
abbrev st__law_refused : Stmt := topS 57
theorem sc__law_refused : FnScope ["_law_thing", "_law_found", "_law_e"] ["_law_thing"] (defScope st__law_refused) := ⟨rfl, rfl, rfl, by decide +kernel, rfl, by decide +kernel, by decide +kernel⟩
abbrev st_law : Stmt := topS 58
theorem sc_law : FnScope ["_law_script", "_law_cell", "_law_text_here", "_law_due_here"] ["_law_script"] (defScope st_law) := ⟨rfl, rfl, rfl, by decide +kernel, rfl, by decide +kernel, by decide +kernel⟩
abbrev st_Term_weight : Stmt := inClass (topS 23) 0
theorem sc_Term_weight : FnScope ["self"] ["self"] (defScope st_Term_weight) := ⟨rfl, rfl, rfl, by decide +kernel, rfl, by decide +kernel, by decide +kernel⟩
abbrev st_Pair_weight : Stmt := inClass (topS 25) 1
theorem sc_Pair_weight : FnScope ["self"] ["self"] (defScope st_Pair_weight) := ⟨rfl, rfl, rfl, by decide +kernel, rfl, by decide +kernel, by decide +kernel⟩
abbrev st_Power_weight : Stmt := inClass (topS 30) 1
theorem sc_Power_weight : FnScope ["self"] ["self"] (defScope st_Power_weight) := ⟨rfl, rfl, rfl, by decide +kernel, rfl, by decide +kernel, by decide +kernel⟩
abbrev st_Part_shown : Stmt := inClass (topS 24) 2
theorem sc_Part_shown : FnScope ["self"] ["self"] (defScope st_Part_shown) := ⟨rfl, rfl, rfl, by decide +kernel, rfl, by decide +kernel, by decide +kernel⟩
abbrev st_Sum_sign : Stmt := inClass (topS 26) 0
theorem sc_Sum_sign : FnScope ["self"] ["self"] (defScope st_Sum_sign) := ⟨rfl, rfl, rfl, by decide +kernel, rfl, by decide +kernel, by decide +kernel⟩
abbrev st_Difference_sign : Stmt := inClass (topS 27) 0
theorem sc_Difference_sign : FnScope ["self"] ["self"] (defScope st_Difference_sign) := ⟨rfl, rfl, rfl, by decide +kernel, rfl, by decide +kernel, by decide +kernel⟩
abbrev st_Product_sign : Stmt := inClass (topS 28) 0
theorem sc_Product_sign : FnScope ["self"] ["self"] (defScope st_Product_sign) := ⟨rfl, rfl, rfl, by decide +kernel, rfl, by decide +kernel, by decide +kernel⟩
abbrev st_Quotient_sign : Stmt := inClass (topS 29) 0
theorem sc_Quotient_sign : FnScope ["self"] ["self"] (defScope st_Quotient_sign) := ⟨rfl, rfl, rfl, by decide +kernel, rfl, by decide +kernel, by decide +kernel⟩
abbrev st_Pair_shown : Stmt := inClass (topS 25) 7
theorem sc_Pair_shown : FnScope ["self"] ["self"] (defScope st_Pair_shown) := ⟨rfl, rfl, rfl, by decide +kernel, rfl, by decide +kernel, by decide +kernel⟩
abbrev st_Power_shown : Stmt := inClass (topS 30) 4
theorem sc_Power_shown : FnScope ["self"] ["self"] (defScope st_Power_shown) := ⟨rfl, rfl, rfl, by decide +kernel, rfl, by decide +kernel, by decide +kernel⟩
abbrev st_Pair___init__ : Stmt := inClass (topS 25) 0
theorem sc_Pair___init__ : FnScope ["self", "one", "other"] ["self", "one", "other"] (defScope st_Pair___init__) := ⟨rfl, rfl, rfl, by decide +kernel, rfl, by decide +kernel, by decide +kernel⟩
abbrev st_Part___init__ : Stmt := inClass (topS 24) 0
theorem sc_Part___init__ : FnScope ["self", "part"] ["self", "part"] (defScope st_Part___init__) := ⟨rfl, rfl, rfl, by decide +kernel, rfl, by decide +kernel, by decide +kernel⟩
abbrev st_Power___init__ : Stmt := inClass (topS 30) 0
theorem sc_Power___init__ : FnScope ["self", "one", "n"] ["self", "one", "n"] (defScope st_Power___init__) := ⟨rfl, rfl, rfl, by decide +kernel, rfl, by decide +kernel, by decide +kernel⟩
def dsL : List Str := ["NoDepth", "NoFigures", "NoFraction", "NoPlace", "NoPolynomial", "NoPower", "NoPrime", "NoQuotient", "NoRoot", "NoSize", "NoText", "NotNear", "TooFew", "Unlike"]
structure Tx (K : PySem.W.Frag) (mg : Str → Option Value) : Prop where
  d_is_whole : DefE K mg "is_whole" st_is_whole ["thing"]
  d_divisor : DefE K mg "divisor" st_divisor ["one", "other"]
  d_fraction : DefED K mg "fraction" st_fraction ["top", "bottom"]
  d_number_of : DefE K mg "number_of" st_number_of ["word"]
  d_whole_of : DefE K mg "whole_of" st_whole_of ["word"]
  d_part_of : DefE K mg "part_of" st_part_of ["word"]
  d_word_at : DefE K mg "word_at" st_word_at ["text", "at"]
  d_of_two : DefE K mg "of_two" st_of_two ["sign", "one", "other"]
  d_read_deed : DefE K mg "read_deed" st_read_deed ["text", "at", "depth"]
  d_read_at : DefE K mg "read_at" st_read_at ["text", "at", "depth"]
  d_read_term : DefE K mg "read_term" st_read_term ["text"]
  d__law_cell_at : DefE K mg "_law_cell_at" st__law_cell_at ["_law_script", "_law_k"]
  d__law_text : DefE K mg "_law_text" st__law_text ["_law_cells"]
  d__law_spoiled : DefE K mg "_law_spoiled" st__law_spoiled ["_law_text_here", "_law_cell", "_law_more"]
  d__law_border : DefE K mg "_law_border" st__law_border ["_law_cell"]
  d__law_is_whole : DefE K mg "_law_is_whole" st__law_is_whole ["_law_word_here"]
  d__law_part : DefE K mg "_law_part" st__law_part ["_law_word_here"]
  d__law_word : DefE K mg "_law_word" st__law_word ["_law_text_here"]
  d__law_shut : DefE K mg "_law_shut" st__law_shut ["_law_stack"]
  d__law_due : DefE K mg "_law_due" st__law_due ["_law_text_here"]
  d__law_others : DefE K mg "_law_others" st__law_others ["_law_e"]
  d__law_refused : DefE K mg "_law_refused" st__law_refused ["_law_thing"]
  n_ValueError : mg "ValueError" = none
  n_abs : mg "abs" = none
  n_all : mg "all" = none
  n_any : mg "any" = none
  n_bool : mg "bool" = none
  n_int : mg "int" = none
  n_isinstance : mg "isinstance" = none
  n_len : mg "len" = none
  n_list : mg "list" = none
  n_str : mg "str" = none
  c_FIGURES : GlS mg "FIGURES" "0123456789"
  c_MOST_DEEP : GlI mg "MOST_DEEP" 10
  c_MOST_FIGURES_reading : GlI mg "MOST_FIGURES_reading" 20
  c_MOST_FIGURES_texts : GlI mg "MOST_FIGURES_texts" 31
  c_MOST_WEIGHT : GlI mg "MOST_WEIGHT" 50
  x_NoFraction : ∃ C, ExcT K mg "NoFraction" C
  x_NoText : ∃ C, ExcT K mg "NoText" C
  u_LeftError : ∃ C, mg "LeftError" = some (.ref C)
  u_NoDepth : ∃ C, mg "NoDepth" = some (.ref C)
  u_NoFigures : ∃ C, mg "NoFigures" = some (.ref C)
  u_NoFraction : ∃ C, mg "NoFraction" = some (.ref C)
  u_NoPlace : ∃ C, mg "NoPlace" = some (.ref C)
  u_NoPolynomial : ∃ C, mg "NoPolynomial" = some (.ref C)
  u_NoPower : ∃ C, mg "NoPower" = some (.ref C)
  u_NoPrime : ∃ C, mg "NoPrime" = some (.ref C)
  u_NoQuotient : ∃ C, mg "NoQuotient" = some (.ref C)
  u_NoRoot : ∃ C, mg "NoRoot" = some (.ref C)
  u_NoSize : ∃ C, mg "NoSize" = some (.ref C)
  u_NoText : ∃ C, mg "NoText" = some (.ref C)
  u_NotNear : ∃ C, mg "NotNear" = some (.ref C)
  u_TooFew : ∃ C, mg "TooFew" = some (.ref C)
  u_Unlike : ∃ C, mg "Unlike" = some (.ref C)
  kq : ∀ c ∈ csL, ∀ d ∈ dsL, KQ K mg c d
  kv : ∀ c ∈ csL, ∀ C, mg c = some (.ref C) → PySem.W.kitOne K (.ref C) (.type "ValueError") = some (subX c "ValueError")
  ke : ∀ c ∈ csL, KE K mg c "LeftError"
  ms : (cs6 (addrOf mg)).Nodup
  cl_Part : ClsE K mg "Part"
  cl_Sum : ClsE K mg "Sum"
  cl_Difference : ClsE K mg "Difference"
  cl_Product : ClsE K mg "Product"
  cl_Quotient : ClsE K mg "Quotient"
  cl_Power : ClsE K mg "Power"
  mk_Difference : MakeE K mg "Difference" "Pair.__init__" st_Pair___init__ ["self", "one", "other"]
  mk_Part : MakeE K mg "Part" "Part.__init__" st_Part___init__ ["self", "part"]
  mk_Power : MakeE K mg "Power" "Power.__init__" st_Power___init__ ["self", "one", "n"]
  mk_Product : MakeE K mg "Product" "Pair.__init__" st_Pair___init__ ["self", "one", "other"]
  mk_Quotient : MakeE K mg "Quotient" "Pair.__init__" st_Pair___init__ ["self", "one", "other"]
  mk_Sum : MakeE K mg "Sum" "Pair.__init__" st_Pair___init__ ["self", "one", "other"]
  mm_Part_weight : MethE K mg "Part" "weight" "Term.weight" st_Term_weight ["self"]
  mm_Sum_weight : MethE K mg "Sum" "weight" "Pair.weight" st_Pair_weight ["self"]
  mm_Difference_weight : MethE K mg "Difference" "weight" "Pair.weight" st_Pair_weight ["self"]
  mm_Product_weight : MethE K mg "Product" "weight" "Pair.weight" st_Pair_weight ["self"]
  mm_Quotient_weight : MethE K mg "Quotient" "weight" "Pair.weight" st_Pair_weight ["self"]
  mm_Power_weight : MethE K mg "Power" "weight" "Power.weight" st_Power_weight ["self"]
  mm_Part_shown : MethE K mg "Part" "shown" "Part.shown" st_Part_shown ["self"]
  mm_Sum_shown : MethE K mg "Sum" "shown" "Pair.shown" st_Pair_shown ["self"]
  mm_Difference_shown : MethE K mg "Difference" "shown" "Pair.shown" st_Pair_shown ["self"]
  mm_Product_shown : MethE K mg "Product" "shown" "Pair.shown" st_Pair_shown ["self"]
  mm_Quotient_shown : MethE K mg "Quotient" "shown" "Pair.shown" st_Pair_shown ["self"]
  mm_Power_shown : MethE K mg "Power" "shown" "Power.shown" st_Power_shown ["self"]
  mm_Sum_sign : MethE K mg "Sum" "sign" "Sum.sign" st_Sum_sign ["self"]
  mm_Difference_sign : MethE K mg "Difference" "sign" "Difference.sign" st_Difference_sign ["self"]
  mm_Product_sign : MethE K mg "Product" "sign" "Product.sign" st_Product_sign ["self"]
  mm_Quotient_sign : MethE K mg "Quotient" "sign" "Quotient.sign" st_Quotient_sign ["self"]
section
variable {P : Program} {w : World} {K : PySem.W.Frag} {mg : Str → Option Value} {base : Heap}
theorem in_Pair___init__ {x : Str} (T : MakeE K mg x "Pair.__init__" st_Pair___init__ ["self", "one", "other"]) : ∃ f fd ps, Mk K (addrOf mg x) f ∧ L2.Binds K fd ps [] ∧ FnOk P w K mg base (L2N.CX P w) 1 f fd ps (spInit K ["one", "other"]) := by
  obtain ⟨f, fd, M, F, b⟩ := T
  refine ⟨f, fd, _, M, b, Fun_okN F sc_Pair___init__ (fun vs H Q E h => ?_) (fun cdv A outer s H vs Q E hr h => ?_)⟩
  · obtain ⟨x, dx, C, ws, rfl, hl, _⟩ := h
    rw [List.length_cons, hl]; rfl
  · obtain ⟨x, dx, C, ws, rfl, hl, hx, c, q⟩ := h
    match ws, hl with
    | [u0, u1], _ =>
      refine ⟨_, pss_cons (ps_fld (pv 0) (pv 1) rfl) (pss_one (ps_fld (pv 0) (pv 2) rfl)), ?_⟩
      refine ⟨u0, rfl, .ref x, rfl, x, C, dx, _, rfl, hx, c.cl, c.na _ (by decide), (by show 0 < 1000; decide), ?_⟩
      refine ⟨u1, rfl, .ref x, rfl, x, C, dx, _, rfl, upd_same, c.cl, c.na _ (by decide), (by show 1 < 1000; decide), ?_⟩
      have e : putF "other" u1 (putF "one" u0 []) = [(("one" : Str), u0), (("other" : Str), u1)] := by simp [putF, show ¬ (("one" : Str) = "other") from by decide]
      rw [upd_upd, e]
      exact q
theorem in_Part___init__ {x : Str} (T : MakeE K mg x "Part.__init__" st_Part___init__ ["self", "part"]) : ∃ f fd ps, Mk K (addrOf mg x) f ∧ L2.Binds K fd ps [] ∧ FnOk P w K mg base (L2N.CX P w) 1 f fd ps (spInit K ["part"]) := by
  obtain ⟨f, fd, M, F, b⟩ := T
  refine ⟨f, fd, _, M, b, Fun_okN F sc_Part___init__ (fun vs H Q E h => ?_) (fun cdv A outer s H vs Q E hr h => ?_)⟩
  · obtain ⟨x, dx, C, ws, rfl, hl, _⟩ := h
    rw [List.length_cons, hl]; rfl
  · obtain ⟨x, dx, C, ws, rfl, hl, hx, c, q⟩ := h
    match ws, hl with
    | [u0], _ =>
      refine ⟨_, pss_one (ps_fld (pv 0) (pv 1) rfl), ?_⟩
      refine ⟨u0, rfl, .ref x, rfl, x, C, dx, _, rfl, hx, c.cl, c.na _ (by decide), (by show 0 < 1000; decide), ?_⟩
      exact q
theorem in_Power___init__ {x : Str} (T : MakeE K mg x "Power.__init__" st_Power___init__ ["self", "one", "n"]) : ∃ f fd ps, Mk K (addrOf mg x) f ∧ L2.Binds K fd ps [] ∧ FnOk P w K mg base (L2N.CX P w) 1 f fd ps (spInit K ["one", "n"]) := by
  obtain ⟨f, fd, M, F, b⟩ := T
  refine ⟨f, fd, _, M, b, Fun_okN F sc_Power___init__ (fun vs H Q E h => ?_) (fun cdv A outer s H vs Q E hr h => ?_)⟩
  · obtain ⟨x, dx, C, ws, rfl, hl, _⟩ := h
    rw [List.length_cons, hl]; rfl
  · obtain ⟨x, dx, C, ws, rfl, hl, hx, c, q⟩ := h
    match ws, hl with
    | [u0, u1], _ =>
      refine ⟨_, pss_cons (ps_fld (pv 0) (pv 1) rfl) (pss_one (ps_fld (pv 0) (pv 2) rfl)), ?_⟩
      refine ⟨u0, rfl, .ref x, rfl, x, C, dx, _, rfl, hx, c.cl, c.na _ (by decide), (by show 0 < 1000; decide), ?_⟩
      refine ⟨u1, rfl, .ref x, rfl, x, C, dx, _, rfl, upd_same, c.cl, c.na _ (by decide), (by show 1 < 1000; decide), ?_⟩
      have e : putF "n" u1 (putF "one" u0 []) = [(("one" : Str), u0), (("n" : Str), u1)] := by simp [putF, show ¬ (("one" : Str) = "n") from by decide]
      rw [upd_upd, e]
      exact q
theorem mk_Difference (B : Tx K mg) : MkE P w K mg base "Difference" (addrOf mg "Difference") ["one", "other"] 1 := ⟨in_Pair___init__ B.mk_Difference, B.cl_Difference.g, B.cl_Difference.c⟩
theorem mk_Part (B : Tx K mg) : MkE P w K mg base "Part" (addrOf mg "Part") ["part"] 1 := ⟨in_Part___init__ B.mk_Part, B.cl_Part.g, B.cl_Part.c⟩
theorem mk_Power (B : Tx K mg) : MkE P w K mg base "Power" (addrOf mg "Power") ["one", "n"] 1 := ⟨in_Power___init__ B.mk_Power, B.cl_Power.g, B.cl_Power.c⟩
theorem mk_Product (B : Tx K mg) : MkE P w K mg base "Product" (addrOf mg "Product") ["one", "other"] 1 := ⟨in_Pair___init__ B.mk_Product, B.cl_Product.g, B.cl_Product.c⟩
theorem mk_Quotient (B : Tx K mg) : MkE P w K mg base "Quotient" (addrOf mg "Quotient") ["one", "other"] 1 := ⟨in_Pair___init__ B.mk_Quotient, B.cl_Quotient.g, B.cl_Quotient.c⟩
theorem mk_Sum (B : Tx K mg) : MkE P w K mg base "Sum" (addrOf mg "Sum") ["one", "other"] 1 := ⟨in_Pair___init__ B.mk_Sum, B.cl_Sum.g, B.cl_Sum.c⟩
theorem bd_is_whole (B : Tx K mg) {f : Addr} {cdv : Value} {A : Around} {outer : List PySem.Env} {s : Shared} {H : Hp} {E : XK} (hr : Room 0 (A.deeper (envOfC "is_whole" (defScope st_is_whole) s.heap.objs.size f cdv))) :
    BJ (cxOf (L2N.CX P w) P w K mg base ["thing"] "is_whole" (defScope st_is_whole) f cdv A outer s H E) (fun cls d _ H => E cls d H) false (defBody st_is_whole) D_is_whole :=
  (b_cons (s_ret (e_and (e_isi (n := "int") B.n_isinstance (by rfl) (e_varT (pv 0)) (pe_bltn (by rfl) B.n_int (by decide +kernel) rfl)) (e_one (e_not (e_isi (n := "bool") B.n_isinstance (by rfl) (e_varT (pv 0)) (pe_bltn (by rfl) B.n_bool (by decide +kernel) rfl))))))
b_nil)
theorem ok_is_whole (B : Tx K mg) : Okd P w K mg base "is_whole" ["thing"] 1 1 false F_is_whole := def_ok B.d_is_whole sc_is_whole rfl (fun z => nomatch z) fun f cdv A outer s H E hr => bd_is_whole B hr
theorem bd_divisor (B : Tx K mg) {f : Addr} {cdv : Value} {A : Around} {outer : List PySem.Env} {s : Shared} {H : Hp} {E : XK} (hr : Room 0 (A.deeper (envOfC "divisor" (defScope st_divisor) s.heap.objs.size f cdv))) :
    BJ (cxOf (L2N.CX P w) P w K mg base ["one", "other"] "divisor" (defScope st_divisor) f cdv A outer s H E) (fun cls d _ H => E cls d H) false (defBody st_divisor) D_divisor :=
  (b_cons (s_set (i := 0) sc_divisor.nd rfl (Or.inl rfl) (e_abs B.n_abs (by rfl) (a_cons (e_varT (pv 0)) a_nil)))
(b_cons (s_set (i := 1) sc_divisor.nd rfl (Or.inl rfl) (e_abs B.n_abs (by rfl) (a_cons (e_varT (pv 1)) a_nil)))
(b_cons (s_while hp_of (t_gt (e_varT (pv 1)) (e_s_t e_int))
(b_cons (s_par (i := 0) (j := 1) rfl sc_divisor.nd rfl rfl (by decide) rfl rfl (a_cons (e_var (pv 1)) (a_cons (e_mod (e_varT (pv 0)) (e_varT (pv 1))) a_nil)) (by rfl))
b_nil))
(b_cons (s_ret (e_var (pv 0)))
b_nil))))
theorem ok_divisor (B : Tx K mg) : Okd P w K mg base "divisor" ["one", "other"] 1 2 false F_divisor := def_ok B.d_divisor sc_divisor rfl (fun z => nomatch z) fun f cdv A outer s H E hr => bd_divisor B hr
theorem bd_fraction (B : Tx K mg) {f : Addr} {cdv : Value} {A : Around} {outer : List PySem.Env} {s : Shared} {H : Hp} {E : XK} (hr : Room 1 (A.deeper (envOfC "fraction" (defScope st_fraction) s.heap.objs.size f cdv))) :
    BJ (cxOf (L2N.CX P w) P w K mg base ["top", "bottom", "share"] "fraction" (defScope st_fraction) f cdv A outer s H E) (fun cls d _ H => E cls d H) false (defBody st_fraction) D_fraction :=
  (b_cons (s_if (t_w (w_or (t_not (t_val (e_callD (ok_is_whole B) hr (by decide) tk_of (by rfl) (a_cons (e_var (pv 0)) a_nil) (ALen.cons ALen.nil)))) (w_or (t_not (t_val (e_callD (ok_is_whole B) hr (by decide) tk_of (by rfl) (a_cons (e_var (pv 1)) a_nil) (ALen.cons ALen.nil)))) (w_or1 (t_eq hr.units (e_varT (pv 1)) (e_s_t e_int))))))
(b_cons (s_raise B.x_NoFraction.choose_spec rfl tk_of (by rfl))
b_nil)
b_nil)
(b_cons (s_set (i := 2) sc_fraction.nd rfl (Or.inl rfl) (e_callD (ok_divisor B) hr (by decide) tk_of (by rfl) (a_cons (e_var (pv 0)) (a_cons (e_var (pv 1)) a_nil)) (ALen.cons (ALen.cons ALen.nil))))
(b_cons (s_if (t_lt (e_varT (pv 1)) (e_s_t e_int))
(b_cons (s_set (i := 2) sc_fraction.nd rfl (Or.inl rfl) (e_neg (e_varT (pv 2))))
b_nil)
b_nil)
(b_cons (s_ret (e_tup (a_cons (e_fdiv (e_varT (pv 0)) (e_varT (pv 2))) (a_cons (e_fdiv (e_varT (pv 1)) (e_varT (pv 2))) a_nil))))
b_nil))))
theorem ok_fraction (B : Tx K mg) : Okd P w K mg base "fraction" ["top", "bottom"] 2 2 false F_fraction ∧ OkD1 P w K mg base "fraction" ["top", "bottom"] 2 2 false F_fraction := def_okD B.d_fraction sc_fraction rfl (fun z => nomatch z) fun f cdv A outer s H E hr => bd_fraction B hr
theorem bd_number_of (B : Tx K mg) {f : Addr} {cdv : Value} {A : Around} {outer : List PySem.Env} {s : Shared} {H : Hp} {E : XK} (hr : Room 0 (A.deeper (envOfC "number_of" (defScope st_number_of) s.heap.objs.size f cdv))) :
    BJ (cxOf (L2N.CX P w) P w K mg base ["word", "figures", "sign"] "number_of" (defScope st_number_of) f cdv A outer s H E) (fun cls d _ H => E cls d H) false (defBody st_number_of) D_number_of :=
  (b_cons (s_set (i := 1) sc_number_of.nd rfl (Or.inl rfl) (e_var (pv 0)))
(b_cons (s_if (t_val (e_stw (e_varT (pv 0)) (e_s_t e_str)))
(b_cons (s_set (i := 1) sc_number_of.nd rfl (Or.inl rfl) (e_slice (e_varT (pv 0)) (o_some e_int) o_none))
b_nil)
b_nil)
(b_cons (s_if (t_w (w_or (t_eq hr.units (e_varT (pv 1)) (e_s_t e_str)) (w_or (t_gt (e_s_t (e_len B.n_len (by rfl) (a_cons (e_varT (pv 1)) a_nil))) (e_s_t (e_glI B.c_MOST_FIGURES_texts (by rfl)))) (w_or1 (t_val (e_any rfl B.n_any (by rfl) (a_cons (e_f_t (e_lc (own := [("sign", 2)]) rfl sc_number_of.nd (i_strP (e_varT (pv 1))) (blkOk_by (own := [("sign", 2)]) (N := ["word", "figures", "sign"]) (sc := defScope st_number_of) (by decide +kernel)) (by decide) (fun _ _ _ _ _ => (g_name (pg_name (i := 2) sc_number_of.nd rfl (Or.inl rfl)))) (fun _ _ _ _ _ => c_nil) (fun _ _ _ _ _ => (e_notInS (e_varT (pv 2)) (e_s_t (e_glS B.c_FIGURES (by rfl))))))) a_nil)))))))
(b_cons (s_raise B.x_NoText.choose_spec rfl tk_of (by rfl))
b_nil)
b_nil)
(b_cons (s_if (t_w (w_and (t_eq hr.units (e_s_t (e_item (e_varT (pv 1)) (e_s_t e_int) (fun _ _ => rfl))) (e_s_t e_str)) (w_and1 (t_ne hr.units (e_varT (pv 0)) (e_s_t e_str)))))
(b_cons (s_raise B.x_NoText.choose_spec rfl tk_of (by rfl))
b_nil)
b_nil)
(b_cons (s_ret (e_intS B.n_int (by rfl) (a_cons (e_varT (pv 0)) a_nil)))
b_nil)))))
theorem ok_number_of (B : Tx K mg) : Okd P w K mg base "number_of" ["word"] 1 1 false F_number_of := def_ok B.d_number_of sc_number_of rfl (fun z => nomatch z) fun f cdv A outer s H E hr => bd_number_of B hr
theorem bd_whole_of (B : Tx K mg) {f : Addr} {cdv : Value} {A : Around} {outer : List PySem.Env} {s : Shared} {H : Hp} {E : XK} (hr : Room 1 (A.deeper (envOfC "whole_of" (defScope st_whole_of) s.heap.objs.size f cdv))) :
    BJ (cxOf (L2N.CX P w) P w K mg base ["word"] "whole_of" (defScope st_whole_of) f cdv A outer s H E) (fun cls d _ H => E cls d H) false (defBody st_whole_of) D_whole_of :=
  (b_cons (s_if (t_gt (e_s_t (e_len B.n_len (by rfl) (a_cons (e_s_t (e_lstr (e_varT (pv 0)) (e_s_t e_str))) a_nil))) (e_s_t (e_glI B.c_MOST_FIGURES_reading (by rfl))))
(b_cons (s_raise B.x_NoText.choose_spec rfl tk_of (by rfl))
b_nil)
b_nil)
(b_cons (s_ret (e_callD (ok_number_of B) hr (by decide) tk_of (by rfl) (a_cons (e_var (pv 0)) a_nil) (ALen.cons ALen.nil)))
b_nil))
theorem ok_whole_of (B : Tx K mg) : Okd P w K mg base "whole_of" ["word"] 2 1 false F_whole_of := def_ok B.d_whole_of sc_whole_of rfl (fun z => nomatch z) fun f cdv A outer s H E hr => bd_whole_of B hr
theorem bd_part_of (B : Tx K mg) {f : Addr} {cdv : Value} {A : Around} {outer : List PySem.Env} {s : Shared} {H : Hp} {E : XK} (hr : Room 2 (A.deeper (envOfC "part_of" (defScope st_part_of) s.heap.objs.size f cdv))) :
    BJ (cxOf (L2N.CX P w) P w K mg base ["word", "top", "stroke", "bottom"] "part_of" (defScope st_part_of) f cdv A outer s H E) (fun cls d _ H => E cls d H) false (defBody st_part_of) (D_part_of (addrOf mg)) :=
  (b_cons (s_to (e_part (e_varT (pv 0)) (e_s_t e_str)) (g_tup rfl (gs_cons (g_name (pg_name (i := 1) sc_part_of.nd rfl (Or.inl rfl))) (gs_cons (g_name (pg_name (i := 2) sc_part_of.nd rfl (Or.inl rfl))) (gs_cons (g_name (pg_name (i := 3) sc_part_of.nd rfl (Or.inl rfl))) gs_nil))) (gs_len (gs_len (gs_len gs_len0)))))
(b_cons (s_if (t_eq hr.units (e_varT (pv 2)) (e_s_t e_str))
(b_cons (s_ret (e_mk (mk_Part B) hr (by decide) (by rfl) (a_cons (e_callD1 (ok_fraction B).2 hr (by decide) tk_of (by rfl) (a_cons (e_callD (ok_whole_of B) hr (by decide) tk_of (by rfl) (a_cons (e_var (pv 1)) a_nil) (ALen.cons ALen.nil)) a_nil) (ALen.cons ALen.nil)) a_nil)))
b_nil)
b_nil)
(b_cons (s_if (t_lt (e_s_t (e_callD (ok_whole_of B) hr (by decide) tk_of (by rfl) (a_cons (e_var (pv 3)) a_nil) (ALen.cons ALen.nil))) (e_s_t e_int))
(b_cons (s_raise B.x_NoText.choose_spec rfl tk_of (by rfl))
b_nil)
b_nil)
(b_cons (s_ret (e_mk (mk_Part B) hr (by decide) (by rfl) (a_cons (e_callD (ok_fraction B).1 hr (by decide) tk_of (by rfl) (a_cons (e_callD (ok_whole_of B) hr (by decide) tk_of (by rfl) (a_cons (e_var (pv 1)) a_nil) (ALen.cons ALen.nil)) (a_cons (e_callD (ok_whole_of B) hr (by decide) tk_of (by rfl) (a_cons (e_var (pv 3)) a_nil) (ALen.cons ALen.nil)) a_nil)) (ALen.cons (ALen.cons ALen.nil))) a_nil)))
b_nil))))
theorem ok_part_of (B : Tx K mg) : Okd P w K mg base "part_of" ["word"] 3 1 false (F_part_of (addrOf mg)) := def_ok B.d_part_of sc_part_of rfl (fun z => nomatch z) fun f cdv A outer s H E hr => bd_part_of B hr
theorem bd_word_at (B : Tx K mg) {f : Addr} {cdv : Value} {A : Around} {outer : List PySem.Env} {s : Shared} {H : Hp} {E : XK} (hr : Room 0 (A.deeper (envOfC "word_at" (defScope st_word_at) s.heap.objs.size f cdv))) :
    BJ (cxOf (L2N.CX P w) P w K mg base ["text", "at", "stop"] "word_at" (defScope st_word_at) f cdv A outer s H E) (fun cls d _ H => E cls d H) false (defBody st_word_at) D_word_at :=
  (b_cons (s_set (i := 2) sc_word_at.nd rfl (Or.inl rfl) (e_var (pv 1)))
(b_cons (s_while hp_of (t_w (w_and (t_lt (e_varT (pv 2)) (e_s_t (e_len B.n_len (by rfl) (a_cons (e_varT (pv 0)) a_nil)))) (w_and1 (t_notInS (e_s_t (e_item (e_varT (pv 0)) (e_varT (pv 2)) (fun _ _ => rfl))) (e_s_t e_str)))))
(b_cons (s_augAdd (i := 2) sc_word_at.nd rfl (Or.inl rfl) (e_s_t e_int))
b_nil))
(b_cons (s_ret (e_slice (e_varT (pv 0)) (o_some (e_var (pv 1))) (o_some (e_var (pv 2)))))
b_nil)))
theorem ok_word_at (B : Tx K mg) : Okd P w K mg base "word_at" ["text", "at"] 1 2 false F_word_at := def_ok B.d_word_at sc_word_at rfl (fun z => nomatch z) fun f cdv A outer s H E hr => bd_word_at B hr
theorem bd_of_two (B : Tx K mg) {f : Addr} {cdv : Value} {A : Around} {outer : List PySem.Env} {s : Shared} {H : Hp} {E : XK} (hr : Room 2 (A.deeper (envOfC "of_two" (defScope st_of_two) s.heap.objs.size f cdv))) :
    BJ (cxOf (L2N.CX P w) P w K mg base ["sign", "one", "other"] "of_two" (defScope st_of_two) f cdv A outer s H E) (fun cls d _ H => E cls d H) false (defBody st_of_two) (D_of_two (addrOf mg)) :=
  (b_cons (s_if (t_eq hr.units (e_varT (pv 0)) (e_s_t e_str))
(b_cons (s_ret (e_mk (mk_Sum B) hr (by decide) (by rfl) (a_cons (e_var (pv 1)) (a_cons (e_var (pv 2)) a_nil))))
b_nil)
b_nil)
(b_cons (s_if (t_eq hr.units (e_varT (pv 0)) (e_s_t e_str))
(b_cons (s_ret (e_mk (mk_Difference B) hr (by decide) (by rfl) (a_cons (e_var (pv 1)) (a_cons (e_var (pv 2)) a_nil))))
b_nil)
b_nil)
(b_cons (s_if (t_eq hr.units (e_varT (pv 0)) (e_s_t e_str))
(b_cons (s_ret (e_mk (mk_Product B) hr (by decide) (by rfl) (a_cons (e_var (pv 1)) (a_cons (e_var (pv 2)) a_nil))))
b_nil)
b_nil)
(b_cons (s_ret (e_mk (mk_Quotient B) hr (by decide) (by rfl) (a_cons (e_var (pv 1)) (a_cons (e_var (pv 2)) a_nil))))
b_nil))))
theorem ok_of_two (B : Tx K mg) : Okd P w K mg base "of_two" ["sign", "one", "other"] 3 3 false (F_of_two (addrOf mg)) := def_ok B.d_of_two sc_of_two rfl (fun z => nomatch z) fun f cdv A outer s H E hr => bd_of_two B hr
theorem bd_read_deed (B : Tx K mg) {n : Nat} {G : List PV → R PV} (ih : Okd P w K mg base "read_at" ["text", "at", "depth"] (3 + 2 * n) 3 false G) {f : Addr} {cdv : Value} {A : Around} {outer : List PySem.Env} {s : Shared} {H : Hp} {E : XK} (hr : Room (3 + 2 * n) (A.deeper (envOfC "read_deed" (defScope st_read_deed) s.heap.objs.size f cdv))) :
    BJ (cxOf (L2N.CX P w) P w K mg base ["text", "at", "depth", "one", "sign", "digit", "made", "other"] "read_deed" (defScope st_read_deed) f cdv A outer s H E) (fun cls d _ H => E cls d H) false (defBody st_read_deed) (D_read_deed (addrOf mg) G) :=
  (b_cons (s_to (e_callD ih hr (by omega) tk_of (by rfl) (a_cons (e_var (pv 0)) (a_cons (e_var (pv 1)) (a_cons (e_var (pv 2)) a_nil))) (ALen.cons (ALen.cons (ALen.cons ALen.nil)))) (g_tup rfl (gs_cons (g_name (pg_name (i := 3) sc_read_deed.nd rfl (Or.inl rfl))) (gs_cons (g_name (pg_name (i := 1) sc_read_deed.nd rfl (Or.inl rfl))) gs_nil)) (gs_len (gs_len gs_len0))))
(b_cons (s_set (i := 4) sc_read_deed.nd rfl (Or.inl rfl) (e_slice (e_varT (pv 0)) (o_some (e_var (pv 1))) (o_some (e_add (e_varT (pv 1)) (e_s_t e_int)))))
(b_cons (s_augAdd (i := 1) sc_read_deed.nd rfl (Or.inl rfl) (e_s_t e_int))
(b_cons (s_if (t_eq hr.units (e_varT (pv 4)) (e_s_t e_str))
(b_cons (s_set (i := 5) sc_read_deed.nd rfl (Or.inl rfl) (e_slice (e_varT (pv 0)) (o_some (e_var (pv 1))) (o_some (e_add (e_varT (pv 1)) (e_s_t e_int)))))
(b_cons (s_if (t_w (w_or (t_eq hr.units (e_varT (pv 5)) (e_s_t e_str)) (w_or1 (t_notInS (e_varT (pv 5)) (e_s_t e_str)))))
(b_cons (s_raise B.x_NoText.choose_spec rfl tk_of (by rfl))
b_nil)
b_nil)
(b_cons (s_set (i := 6) sc_read_deed.nd rfl (Or.inl rfl) (e_mk (mk_Power B) hr (by omega) (by rfl) (a_cons (e_var (pv 3)) (a_cons (e_intS B.n_int (by rfl) (a_cons (e_varT (pv 5)) a_nil)) a_nil))))
(b_cons (s_augAdd (i := 1) sc_read_deed.nd rfl (Or.inl rfl) (e_s_t e_int))
b_nil))))
(b_cons (s_if (t_in (roomIn hr) (e_varT (pv 4)) (e_s_t (e_tup (a_cons e_str (a_cons e_str (a_cons e_str (a_cons e_str a_nil)))))))
(b_cons (s_to (e_callD ih hr (by omega) tk_of (by rfl) (a_cons (e_var (pv 0)) (a_cons (e_var (pv 1)) (a_cons (e_var (pv 2)) a_nil))) (ALen.cons (ALen.cons (ALen.cons ALen.nil)))) (g_tup rfl (gs_cons (g_name (pg_name (i := 7) sc_read_deed.nd rfl (Or.inl rfl))) (gs_cons (g_name (pg_name (i := 1) sc_read_deed.nd rfl (Or.inl rfl))) gs_nil)) (gs_len (gs_len gs_len0))))
(b_cons (s_set (i := 6) sc_read_deed.nd rfl (Or.inl rfl) (e_callD (ok_of_two B) hr (by omega) tk_of (by rfl) (a_cons (e_var (pv 4)) (a_cons (e_var (pv 3)) (a_cons (e_var (pv 7)) a_nil))) (ALen.cons (ALen.cons (ALen.cons ALen.nil)))))
b_nil))
(b_cons (s_raise B.x_NoText.choose_spec rfl tk_of (by rfl))
b_nil))
b_nil))
(b_cons (s_if (t_ne hr.units (e_s_t (e_slice (e_varT (pv 0)) (o_some (e_var (pv 1))) (o_some (e_add (e_varT (pv 1)) (e_s_t e_int))))) (e_s_t e_str))
(b_cons (s_raise B.x_NoText.choose_spec rfl tk_of (by rfl))
b_nil)
b_nil)
(b_cons (s_ret (e_tup (a_cons (e_var (pv 6)) (a_cons (e_add (e_varT (pv 1)) (e_s_t e_int)) a_nil))))
b_nil))))))
theorem ok_read_deed (B : Tx K mg) {n : Nat} {G : List PV → R PV} (ih : Okd P w K mg base "read_at" ["text", "at", "depth"] (3 + 2 * n) 3 false G) : Okd P w K mg base "read_deed" ["text", "at", "depth"] ((3 + 2 * n) + 1) 3 false (F_read_deed (addrOf mg) G) := def_ok B.d_read_deed sc_read_deed rfl (fun z => nomatch z) fun f cdv A outer s H E hr => bd_read_deed B ih hr
theorem bd_read_at (B : Tx K mg) {n : Nat} {G : List PV → R PV} (ih : Okd P w K mg base "read_at" ["text", "at", "depth"] (3 + 2 * n) 3 false G) {f : Addr} {cdv : Value} {A : Around} {outer : List PySem.Env} {s : Shared} {H : Hp} {E : XK} (hr : Room ((3 + 2 * n) + 1) (A.deeper (envOfC "read_at" (defScope st_read_at) s.heap.objs.size f cdv))) :
    BJ (cxOf (L2N.CX P w) P w K mg base ["text", "at", "depth", "word"] "read_at" (defScope st_read_at) f cdv A outer s H E) (fun cls d _ H => E cls d H) false (defBody st_read_at) (D_read_at (addrOf mg) G) :=
  (b_cons (s_if (t_eq hr.units (e_s_t (e_slice (e_varT (pv 0)) (o_some (e_var (pv 1))) (o_some (e_add (e_varT (pv 1)) (e_s_t e_int))))) (e_s_t e_str))
(b_cons (s_if (t_eq hr.units (e_varT (pv 2)) (e_s_t (e_glI B.c_MOST_DEEP (by rfl))))
(b_cons (s_raise B.x_NoText.choose_spec rfl tk_of (by rfl))
b_nil)
b_nil)
(b_cons (s_ret (e_callD (ok_read_deed B ih) hr (by omega) tk_of (by rfl) (a_cons (e_var (pv 0)) (a_cons (e_add (e_varT (pv 1)) (e_s_t e_int)) (a_cons (e_add (e_varT (pv 2)) (e_s_t e_int)) a_nil))) (ALen.cons (ALen.cons (ALen.cons ALen.nil)))))
b_nil))
b_nil)
(b_cons (s_set (i := 3) sc_read_at.nd rfl (Or.inl rfl) (e_callD (ok_word_at B) hr (by omega) tk_of (by rfl) (a_cons (e_var (pv 0)) (a_cons (e_var (pv 1)) a_nil)) (ALen.cons (ALen.cons ALen.nil))))
(b_cons (s_ret (e_tup (a_cons (e_callD (ok_part_of B) hr (by omega) tk_of (by rfl) (a_cons (e_var (pv 3)) a_nil) (ALen.cons ALen.nil)) (a_cons (e_add (e_varT (pv 1)) (e_s_t (e_len B.n_len (by rfl) (a_cons (e_varT (pv 3)) a_nil)))) a_nil))))
b_nil)))
theorem ok_read_at (B : Tx K mg) : ∀ n : Nat, Okd P w K mg base "read_at" ["text", "at", "depth"] (3 + 2 * n) 3 false (F_read_at (addrOf mg) n)
  | 0 => okd_stuck B.d_read_at rfl
  | n + 1 => def_ok B.d_read_at sc_read_at rfl (fun z => nomatch z) fun f cdv A outer s H E hr => bd_read_at B (ok_read_at B n) hr
theorem bd_Term_weight (B : Tx K mg) {n : Nat} {f : Addr} {cdv : Value} {A : Around} {outer : List PySem.Env} {s : Shared} {H : Hp} {E : XK} (hr : Room (0 + n) (A.deeper (envOfC "Term.weight" (defScope st_Term_weight) s.heap.objs.size f cdv))) :
    BJ (cxOf (L2N.CX P w) P w K mg base ["self"] "Term.weight" (defScope st_Term_weight) f cdv A outer s H E) (fun cls d _ H => E cls d H) false (defBody st_Term_weight) (D_Term_weight (addrOf mg)) :=
  (b_cons (s_ret e_int)
b_nil)
theorem bd_Pair_weight (B : Tx K mg) {n : Nat} {V : Addr → List PV → R PV} (ih : Okm P w K mg base "weight" (cs6 (addrOf mg)) (0 + n) 1 false V) {f : Addr} {cdv : Value} {A : Around} {outer : List PySem.Env} {s : Shared} {H : Hp} {E : XK} (hr : Room (0 + n) (A.deeper (envOfC "Pair.weight" (defScope st_Pair_weight) s.heap.objs.size f cdv))) :
    BJ (cxOf (L2N.CX P w) P w K mg base ["self"] "Pair.weight" (defScope st_Pair_weight) f cdv A outer s H E) (fun cls d _ H => E cls d H) false (defBody st_Pair_weight) (D_Pair_weight (addrOf mg) V) :=
  (b_cons (s_ret (e_add (e_s_t (e_meth0 ih hr (by omega) tk_of (List.cons_ne_nil _ _) (e_fld (by decide) (e_var (pv 0))))) (e_s_t (e_meth0 ih hr (by omega) tk_of (List.cons_ne_nil _ _) (e_fld (by decide) (e_var (pv 0)))))))
b_nil)
theorem bd_Power_weight (B : Tx K mg) {n : Nat} {V : Addr → List PV → R PV} (ih : Okm P w K mg base "weight" (cs6 (addrOf mg)) (0 + n) 1 false V) {f : Addr} {cdv : Value} {A : Around} {outer : List PySem.Env} {s : Shared} {H : Hp} {E : XK} (hr : Room (0 + n) (A.deeper (envOfC "Power.weight" (defScope st_Power_weight) s.heap.objs.size f cdv))) :
    BJ (cxOf (L2N.CX P w) P w K mg base ["self"] "Power.weight" (defScope st_Power_weight) f cdv A outer s H E) (fun cls d _ H => E cls d H) false (defBody st_Power_weight) (D_Power_weight (addrOf mg) V) :=
  (b_cons (s_ret (e_mul (e_s_t (e_fld (by decide) (e_var (pv 0)))) (e_s_t (e_meth0 ih hr (by omega) tk_of (List.cons_ne_nil _ _) (e_fld (by decide) (e_var (pv 0)))))))
b_nil)
theorem okm_weight (B : Tx K mg) : ∀ n : Nat, Okm P w K mg base "weight" (cs6 (addrOf mg)) (0 + n) 1 false (G_weight (addrOf mg) n)
  | 0 => okm_pick (L := tab6 (addrOf mg) (fun _ => .stuck) (fun _ => .stuck) (fun _ => .stuck) (fun _ => .stuck) (fun _ => .stuck) (fun _ => .stuck)) B.ms (fa_cons ⟨B.cl_Part.c.cl, meth_stuck B.mm_Part_weight rfl⟩ (fa_cons ⟨B.cl_Sum.c.cl, meth_stuck B.mm_Sum_weight rfl⟩ (fa_cons ⟨B.cl_Difference.c.cl, meth_stuck B.mm_Difference_weight rfl⟩ (fa_cons ⟨B.cl_Product.c.cl, meth_stuck B.mm_Product_weight rfl⟩ (fa_cons ⟨B.cl_Quotient.c.cl, meth_stuck B.mm_Quotient_weight rfl⟩ (fa_cons ⟨B.cl_Power.c.cl, meth_stuck B.mm_Power_weight rfl⟩ fa_nil))))))
  | n + 1 => okm_pick (L := tab6 (addrOf mg) (runF 1 (D_Term_weight (addrOf mg))) (runF 1 (D_Pair_weight (addrOf mg) (G_weight (addrOf mg) n))) (runF 1 (D_Pair_weight (addrOf mg) (G_weight (addrOf mg) n))) (runF 1 (D_Pair_weight (addrOf mg) (G_weight (addrOf mg) n))) (runF 1 (D_Pair_weight (addrOf mg) (G_weight (addrOf mg) n))) (runF 1 (D_Power_weight (addrOf mg) (G_weight (addrOf mg) n)))) B.ms (fa_cons ⟨B.cl_Part.c.cl, meth_fn (nw := false) (k := 0 + n) B.mm_Part_weight sc_Term_weight rfl (fun z => nomatch z) fun f cdv A outer s H E hr => bd_Term_weight B (n := n) hr⟩
    (fa_cons ⟨B.cl_Sum.c.cl, meth_fn (nw := false) (k := 0 + n) B.mm_Sum_weight sc_Pair_weight rfl (fun z => nomatch z) fun f cdv A outer s H E hr => bd_Pair_weight B (okm_weight B n) hr⟩
    (fa_cons ⟨B.cl_Difference.c.cl, meth_fn (nw := false) (k := 0 + n) B.mm_Difference_weight sc_Pair_weight rfl (fun z => nomatch z) fun f cdv A outer s H E hr => bd_Pair_weight B (okm_weight B n) hr⟩
    (fa_cons ⟨B.cl_Product.c.cl, meth_fn (nw := false) (k := 0 + n) B.mm_Product_weight sc_Pair_weight rfl (fun z => nomatch z) fun f cdv A outer s H E hr => bd_Pair_weight B (okm_weight B n) hr⟩
    (fa_cons ⟨B.cl_Quotient.c.cl, meth_fn (nw := false) (k := 0 + n) B.mm_Quotient_weight sc_Pair_weight rfl (fun z => nomatch z) fun f cdv A outer s H E hr => bd_Pair_weight B (okm_weight B n) hr⟩
    (fa_cons ⟨B.cl_Power.c.cl, meth_fn (nw := false) (k := 0 + n) B.mm_Power_weight sc_Power_weight rfl (fun z => nomatch z) fun f cdv A outer s H E hr => bd_Power_weight B (okm_weight B n) hr⟩
    fa_nil))))))
theorem bd_read_term (B : Tx K mg) {f : Addr} {cdv : Value} {A : Around} {outer : List PySem.Env} {s : Shared} {H : Hp} {E : XK} (hr : Room 29 (A.deeper (envOfC "read_term" (defScope st_read_term) s.heap.objs.size f cdv))) :
    BJ (cxOf (L2N.CX P w) P w K mg base ["text", "found", "at"] "read_term" (defScope st_read_term) f cdv A outer s H E) (fun cls d _ H => E cls d H) false (defBody st_read_term) (D_read_term (addrOf mg)) :=
  (b_cons (s_if (t_not (t_val (e_isi (n := "str") B.n_isinstance (by rfl) (e_varT (pv 0)) (pe_bltn (by rfl) B.n_str (by decide +kernel) rfl))))
(b_cons (s_raise B.x_NoText.choose_spec rfl tk_of (by rfl))
b_nil)
b_nil)
(b_cons (s_to (e_callD (ok_read_at B 13) hr (by decide) tk_of (by rfl) (a_cons (e_var (pv 0)) (a_cons e_int (a_cons e_int a_nil))) (ALen.cons (ALen.cons (ALen.cons ALen.nil)))) (g_tup rfl (gs_cons (g_name (pg_name (i := 1) sc_read_term.nd rfl (Or.inl rfl))) (gs_cons (g_name (pg_name (i := 2) sc_read_term.nd rfl (Or.inl rfl))) gs_nil)) (gs_len (gs_len gs_len0))))
(b_cons (s_if (t_w (w_or (t_ne hr.units (e_varT (pv 2)) (e_s_t (e_len B.n_len (by rfl) (a_cons (e_varT (pv 0)) a_nil)))) (w_or1 (t_gt (e_s_t (e_meth0 (okm_weight B 14) hr (by decide) tk_of (List.cons_ne_nil _ _) (e_var (pv 1)))) (e_s_t (e_glI B.c_MOST_WEIGHT (by rfl)))))))
(b_cons (s_raise B.x_NoText.choose_spec rfl tk_of (by rfl))
b_nil)
b_nil)
(b_cons (s_ret (e_var (pv 1)))
b_nil))))
theorem ok_read_term (B : Tx K mg) : Okd P w K mg base "read_term" ["text"] 30 1 false (F_read_term (addrOf mg)) := def_ok B.d_read_term sc_read_term rfl (fun z => nomatch z) fun f cdv A outer s H E hr => bd_read_term B hr
theorem bd__law_cell_at (B : Tx K mg) {f : Addr} {cdv : Value} {A : Around} {outer : List PySem.Env} {s : Shared} {H : Hp} {E : XK} (hr : Room 0 (A.deeper (envOfC "_law_cell_at" (defScope st__law_cell_at) s.heap.objs.size f cdv))) :
    BJ (cxOf (L2N.CX P w) P w K mg base ["_law_script", "_law_k"] "_law_cell_at" (defScope st__law_cell_at) f cdv A outer s H E) (fun cls d _ H => E cls d H) false (defBody st__law_cell_at) D__law_cell_at :=
  (b_cons (s_if (t_lt (e_varT (pv 1)) (e_s_t (e_len B.n_len (by rfl) (a_cons (e_varT (pv 0)) a_nil))))
(b_cons (s_ret (e_item (e_varT (pv 0)) (e_varT (pv 1)) (fun _ _ => rfl)))
b_nil)
b_nil)
(b_cons (s_ret e_int)
b_nil))
theorem ok__law_cell_at (B : Tx K mg) : Okd P w K mg base "_law_cell_at" ["_law_script", "_law_k"] 1 2 false F__law_cell_at := def_ok B.d__law_cell_at sc__law_cell_at rfl (fun z => nomatch z) fun f cdv A outer s H E hr => bd__law_cell_at B hr
theorem bd__law_text (B : Tx K mg) {f : Addr} {cdv : Value} {A : Around} {outer : List PySem.Env} {s : Shared} {H : Hp} {E : XK} (hr : Room 0 (A.deeper (envOfC "_law_text" (defScope st__law_text) s.heap.objs.size f cdv))) :
    BJ (cxOf (L2N.CX P w) P w K mg base ["_law_cells", "_law_stack", "_law_cell", "_law_word_here"] "_law_text" (defScope st__law_text) f cdv A outer s H E) (fun cls d _ H => E cls d H) false (defBody st__law_text) D__law_text :=
  (b_cons (s_setO (i := 1) sc__law_text.nd rfl (Or.inl rfl) (e_lst (a_cons e_str a_nil)))
(b_cons (s_for hp_of rfl (i_seq (e_var (pv 0))) (g_name (pg_name (i := 2) sc__law_text.nd rfl (Or.inl rfl)))
(b_cons (s_set (i := 3) sc__law_text.nd rfl (Or.inl rfl) (e_strI B.n_str (by rfl) (a_cons (e_s_t (e_sub (e_s_t (e_mod (e_s_t (e_fdiv (e_varT (pv 2)) (e_s_t e_int))) (e_s_t e_int))) (e_s_t e_int))) a_nil)))
(b_cons (s_if (t_eq hr.units (e_s_t (e_mod (e_varT (pv 2)) (e_s_t e_int))) (e_s_t e_int))
(b_cons (s_set (i := 3) sc__law_text.nd rfl (Or.inl rfl) (e_add (e_s_t (e_add (e_varT (pv 3)) (e_s_t e_str))) (e_s_t (e_strI B.n_str (by rfl) (a_cons (e_s_t (e_add (e_s_t e_int) (e_s_t (e_mod (e_s_t (e_fdiv (e_varT (pv 2)) (e_s_t e_int))) (e_s_t e_int))))) a_nil)))))
b_nil)
b_nil)
(b_cons (s_if (t_w (w_and (t_lt (e_s_t (e_mod (e_varT (pv 2)) (e_s_t e_int))) (e_s_t e_int)) (w_and1 (t_gt (e_s_t (e_len B.n_len (by rfl) (a_cons (e_varT (pv 1)) a_nil))) (e_s_t e_int)))))
(b_cons (s_set (i := 3) sc__law_text.nd rfl (Or.inl rfl) (e_add (e_s_t (e_add (e_s_t (e_add (e_s_t (e_add (e_s_t e_str) (e_s_t (e_item (e_varT (pv 1)) (e_s_t (e_neg (e_s_t e_int))) (fun _ _ => rfl))))) (e_s_t (e_item (e_f_t (e_lst (a_cons e_str (a_cons e_str (a_cons e_str (a_cons e_str a_nil)))))) (e_s_t (e_mod (e_varT (pv 2)) (e_s_t e_int))) (fun _ _ => rfl))))) (e_s_t (e_item (e_varT (pv 1)) (e_s_t (e_neg (e_s_t e_int))) (fun _ _ => rfl))))) (e_s_t e_str)))
(b_cons (s_setO (i := 1) sc__law_text.nd rfl (Or.inl rfl) (e_sliceL (e_varT (pv 1)) o_none (o_some (e_neg (e_s_t e_int)))))
b_nil))
(b_cons (s_if (t_eq hr.units (e_s_t (e_mod (e_varT (pv 2)) (e_s_t e_int))) (e_s_t e_int))
(b_cons (s_set (i := 3) sc__law_text.nd rfl (Or.inl rfl) (e_add (e_s_t (e_add (e_s_t (e_add (e_s_t (e_add (e_s_t e_str) (e_s_t (e_item (e_varT (pv 1)) (e_s_t (e_neg (e_s_t e_int))) (fun _ _ => rfl))))) (e_s_t e_str))) (e_s_t (e_strI B.n_str (by rfl) (a_cons (e_s_t (e_add (e_s_t e_int) (e_s_t (e_mod (e_s_t (e_fdiv (e_varT (pv 2)) (e_s_t e_int))) (e_s_t e_int))))) a_nil))))) (e_s_t e_str)))
(b_cons (s_setO (i := 1) sc__law_text.nd rfl (Or.inl rfl) (e_sliceL (e_varT (pv 1)) o_none (o_some (e_neg (e_s_t e_int)))))
b_nil))
b_nil)
b_nil))
(b_cons (s_app (i := 1) (pv 1) (e_var (pv 3)))
b_nil)))))
(b_cons (s_ret (e_item (e_varT (pv 1)) (e_s_t (e_neg (e_s_t e_int))) (fun _ _ => rfl)))
b_nil)))
theorem ok__law_text (B : Tx K mg) : Okd P w K mg base "_law_text" ["_law_cells"] 1 1 false F__law_text := def_ok B.d__law_text sc__law_text rfl (fun z => nomatch z) fun f cdv A outer s H E hr => bd__law_text B hr
theorem bd__law_spoiled (B : Tx K mg) {f : Addr} {cdv : Value} {A : Around} {outer : List PySem.Env} {s : Shared} {H : Hp} {E : XK} (hr : Room 0 (A.deeper (envOfC "_law_spoiled" (defScope st__law_spoiled) s.heap.objs.size f cdv))) :
    BJ (cxOf (L2N.CX P w) P w K mg base ["_law_text_here", "_law_cell", "_law_more", "_law_signs", "_law_at"] "_law_spoiled" (defScope st__law_spoiled) f cdv A outer s H E) (fun cls d _ H => E cls d H) false (defBody st__law_spoiled) D__law_spoiled :=
  (b_cons (s_set (i := 3) sc__law_spoiled.nd rfl (Or.inl rfl) (e_f_s (e_lst (a_cons e_str (a_cons e_str (a_cons e_str (a_cons e_str (a_cons e_str (a_cons e_str (a_cons e_str (a_cons e_str (a_cons e_str (a_cons e_str (a_cons e_str (a_cons e_str (a_cons e_str (a_cons e_str (a_cons e_str (a_cons e_str (a_cons e_str (a_cons e_str (a_cons e_str a_nil))))))))))))))))))))))
(b_cons (s_set (i := 4) sc__law_spoiled.nd rfl (Or.inl rfl) (e_mod (e_s_t (e_fdiv (e_varT (pv 1)) (e_s_t e_int))) (e_s_t (e_add (e_s_t (e_len B.n_len (by rfl) (a_cons (e_varT (pv 0)) a_nil))) (e_s_t e_int)))))
(b_cons (s_if (t_eq hr.units (e_s_t (e_mod (e_varT (pv 1)) (e_s_t e_int))) (e_s_t e_int))
(b_cons (s_ret (e_add (e_s_t (e_add (e_s_t (e_slice (e_varT (pv 0)) o_none (o_some (e_var (pv 4))))) (e_s_t (e_item (e_varT (pv 3)) (e_s_t (e_mod (e_varT (pv 2)) (e_s_t e_int))) (fun _ _ => rfl))))) (e_s_t (e_slice (e_varT (pv 0)) (o_some (e_var (pv 4))) o_none))))
b_nil)
b_nil)
(b_cons (s_if (t_eq hr.units (e_s_t (e_mod (e_varT (pv 1)) (e_s_t e_int))) (e_s_t e_int))
(b_cons (s_ret (e_add (e_s_t (e_slice (e_varT (pv 0)) o_none (o_some (e_var (pv 4))))) (e_s_t (e_slice (e_varT (pv 0)) (o_some (e_add (e_varT (pv 4)) (e_s_t e_int))) o_none))))
b_nil)
b_nil)
(b_cons (s_ret (e_add (e_s_t (e_add (e_s_t (e_slice (e_varT (pv 0)) o_none (o_some (e_var (pv 4))))) (e_s_t (e_item (e_varT (pv 3)) (e_s_t (e_mod (e_varT (pv 2)) (e_s_t e_int))) (fun _ _ => rfl))))) (e_s_t (e_slice (e_varT (pv 0)) (o_some (e_add (e_varT (pv 4)) (e_s_t e_int))) o_none))))
b_nil)))))
theorem ok__law_spoiled (B : Tx K mg) : Okd P w K mg base "_law_spoiled" ["_law_text_here", "_law_cell", "_law_more"] 1 3 false F__law_spoiled := def_ok B.d__law_spoiled sc__law_spoiled rfl (fun z => nomatch z) fun f cdv A outer s H E hr => bd__law_spoiled B hr
theorem bd__law_border (B : Tx K mg) {f : Addr} {cdv : Value} {A : Around} {outer : List PySem.Env} {s : Shared} {H : Hp} {E : XK} (hr : Room 0 (A.deeper (envOfC "_law_border" (defScope st__law_border) s.heap.objs.size f cdv))) :
    BJ (cxOf (L2N.CX P w) P w K mg base ["_law_cell", "_law_many"] "_law_border" (defScope st__law_border) f cdv A outer s H E) (fun cls d _ H => E cls d H) false (defBody st__law_border) D__law_border :=
  (b_cons (s_set (i := 1) sc__law_border.nd rfl (Or.inl rfl) (e_mod (e_s_t (e_fdiv (e_varT (pv 0)) (e_s_t e_int))) (e_s_t e_int)))
(b_cons (s_if (t_eq hr.units (e_s_t (e_mod (e_varT (pv 0)) (e_s_t e_int))) (e_s_t e_int))
(b_cons (s_ret (e_add (e_s_t (e_add (e_s_t (e_repS (e_s_t e_str) (e_s_t (e_add (e_s_t e_int) (e_varT (pv 1)))))) (e_s_t e_str))) (e_s_t (e_repS (e_s_t e_str) (e_s_t (e_add (e_s_t e_int) (e_varT (pv 1))))))))
b_nil)
b_nil)
(b_cons (s_if (t_eq hr.units (e_s_t (e_mod (e_varT (pv 0)) (e_s_t e_int))) (e_s_t e_int))
(b_cons (s_ret (e_add (e_s_t (e_add (e_s_t (e_add (e_s_t (e_add (e_s_t e_str) (e_s_t e_str))) (e_s_t e_str))) (e_s_t (e_item (e_f_t (e_lst (a_cons e_str (a_cons e_str (a_cons e_str (a_cons e_str a_nil)))))) (e_varT (pv 1)) (fun _ _ => rfl))))) (e_s_t e_str)))
b_nil)
b_nil)
(b_cons (s_if (t_eq hr.units (e_s_t (e_mod (e_varT (pv 0)) (e_s_t e_int))) (e_s_t e_int))
(b_cons (s_ret (e_add (e_s_t (e_item (e_f_t (e_lst (a_cons e_str (a_cons e_str a_nil)))) (e_s_t (e_mod (e_s_t (e_fdiv (e_varT (pv 0)) (e_s_t e_int))) (e_s_t e_int))) (fun _ _ => rfl))) (e_s_t (e_repS (e_s_t e_str) (e_s_t (e_add (e_s_t e_int) (e_varT (pv 1))))))))
b_nil)
b_nil)
(b_cons (s_ret (e_add (e_s_t e_str) (e_s_t (e_repS (e_s_t e_str) (e_s_t (e_add (e_s_t e_int) (e_varT (pv 1))))))))
b_nil)))))
theorem ok__law_border (B : Tx K mg) : Okd P w K mg base "_law_border" ["_law_cell"] 1 1 false F__law_border := def_ok B.d__law_border sc__law_border rfl (fun z => nomatch z) fun f cdv A outer s H E hr => bd__law_border B hr
theorem bd__law_is_whole (B : Tx K mg) {f : Addr} {cdv : Value} {A : Around} {outer : List PySem.Env} {s : Shared} {H : Hp} {E : XK} (hr : Room 0 (A.deeper (envOfC "_law_is_whole" (defScope st__law_is_whole) s.heap.objs.size f cdv))) :
    BJ (cxOf (L2N.CX P w) P w K mg base ["_law_word_here", "_law_figures", "_law_sign"] "_law_is_whole" (defScope st__law_is_whole) f cdv A outer s H E) (fun cls d _ H => E cls d H) false (defBody st__law_is_whole) D__law_is_whole :=
  (b_cons (s_set (i := 1) sc__law_is_whole.nd rfl (Or.inl rfl) (e_var (pv 0)))
(b_cons (s_if (t_eq hr.units (e_s_t (e_slice (e_varT (pv 0)) o_none (o_some e_int))) (e_s_t e_str))
(b_cons (s_set (i := 1) sc__law_is_whole.nd rfl (Or.inl rfl) (e_slice (e_varT (pv 0)) (o_some e_int) o_none))
b_nil)
b_nil)
(b_cons (s_if (t_w (w_or (t_eq hr.units (e_varT (pv 1)) (e_s_t e_str)) (w_or (t_gt (e_s_t (e_len B.n_len (by rfl) (a_cons (e_varT (pv 1)) a_nil))) (e_s_t e_int)) (w_or1 (t_not (t_val (e_all rfl B.n_all (by rfl) (a_cons (e_f_t (e_lc (own := [("_law_sign", 2)]) rfl sc__law_is_whole.nd (i_strP (e_varT (pv 1))) (blkOk_by (own := [("_law_sign", 2)]) (N := ["_law_word_here", "_law_figures", "_law_sign"]) (sc := defScope st__law_is_whole) (by decide +kernel)) (by decide) (fun _ _ _ _ _ => (g_name (pg_name (i := 2) sc__law_is_whole.nd rfl (Or.inl rfl)))) (fun _ _ _ _ _ => c_nil) (fun _ _ _ _ _ => (e_inS (e_varT (pv 2)) (e_s_t e_str))))) a_nil))))))))
(b_cons (s_ret e_bl)
b_nil)
b_nil)
(b_cons (s_ret (e_or (e_ne hr.units (e_s_t (e_item (e_varT (pv 1)) (e_s_t e_int) (fun _ _ => rfl))) (e_s_t e_str)) (e_one (e_eq hr.units (e_varT (pv 0)) (e_s_t e_str)))))
b_nil))))
theorem ok__law_is_whole (B : Tx K mg) : Okd P w K mg base "_law_is_whole" ["_law_word_here"] 1 1 false F__law_is_whole := def_ok B.d__law_is_whole sc__law_is_whole rfl (fun z => nomatch z) fun f cdv A outer s H E hr => bd__law_is_whole B hr
theorem bd__law_part (B : Tx K mg) {f : Addr} {cdv : Value} {A : Around} {outer : List PySem.Env} {s : Shared} {H : Hp} {E : XK} (hr : Room 2 (A.deeper (envOfC "_law_part" (defScope st__law_part) s.heap.objs.size f cdv))) :
    BJ (cxOf (L2N.CX P w) P w K mg base ["_law_word_here", "_law_top", "_law_stroke", "_law_bottom", "_law_part_here"] "_law_part" (defScope st__law_part) f cdv A outer s H E) (fun cls d _ H => E cls d H) false (defBody st__law_part) D__law_part :=
  (b_cons (s_to (e_part (e_varT (pv 0)) (e_s_t e_str)) (g_tup rfl (gs_cons (g_name (pg_name (i := 1) sc__law_part.nd rfl (Or.inl rfl))) (gs_cons (g_name (pg_name (i := 2) sc__law_part.nd rfl (Or.inl rfl))) (gs_cons (g_name (pg_name (i := 3) sc__law_part.nd rfl (Or.inl rfl))) gs_nil))) (gs_len (gs_len (gs_len gs_len0)))))
(b_cons (s_if (t_not (t_val (e_callD (ok__law_is_whole B) hr (by decide) tk_of (by rfl) (a_cons (e_var (pv 1)) a_nil) (ALen.cons ALen.nil))))
(b_cons (s_ret e_non)
b_nil)
b_nil)
(b_cons (s_if (t_eq hr.units (e_varT (pv 2)) (e_s_t e_str))
(b_cons (s_ret (e_f_s (e_lst (a_cons (e_var (pv 1)) (a_cons e_int a_nil)))))
b_nil)
b_nil)
(b_cons (s_if (t_w (w_or (t_not (t_val (e_callD (ok__law_is_whole B) hr (by decide) tk_of (by rfl) (a_cons (e_var (pv 3)) a_nil) (ALen.cons ALen.nil)))) (w_or1 (t_lt (e_s_t (e_intS B.n_int (by rfl) (a_cons (e_varT (pv 3)) a_nil))) (e_s_t e_int)))))
(b_cons (s_ret e_non)
b_nil)
b_nil)
(b_cons (s_set (i := 4) sc__law_part.nd rfl (Or.inl rfl) (e_callD (ok_fraction B).1 hr (by decide) tk_of (by rfl) (a_cons (e_intS B.n_int (by rfl) (a_cons (e_varT (pv 1)) a_nil)) (a_cons (e_intS B.n_int (by rfl) (a_cons (e_varT (pv 3)) a_nil)) a_nil)) (ALen.cons (ALen.cons ALen.nil))))
(b_cons (s_if (t_eq hr.units (e_s_t (e_item (e_varT (pv 4)) (e_s_t e_int) (fun _ _ => rfl))) (e_s_t e_int))
(b_cons (s_ret (e_f_s (e_lst (a_cons (e_strI B.n_str (by rfl) (a_cons (e_s_t (e_item (e_varT (pv 4)) (e_s_t e_int) (fun _ _ => rfl))) a_nil)) (a_cons e_int a_nil)))))
b_nil)
b_nil)
(b_cons (s_ret (e_f_s (e_lst (a_cons (e_add (e_s_t (e_add (e_s_t (e_strI B.n_str (by rfl) (a_cons (e_s_t (e_item (e_varT (pv 4)) (e_s_t e_int) (fun _ _ => rfl))) a_nil))) (e_s_t e_str))) (e_s_t (e_strI B.n_str (by rfl) (a_cons (e_s_t (e_item (e_varT (pv 4)) (e_s_t e_int) (fun _ _ => rfl))) a_nil)))) (a_cons e_int a_nil)))))
b_nil)))))))
theorem ok__law_part (B : Tx K mg) : Okd P w K mg base "_law_part" ["_law_word_here"] 3 1 false F__law_part := def_ok B.d__law_part sc__law_part rfl (fun z => nomatch z) fun f cdv A outer s H E hr => bd__law_part B hr
theorem bd__law_word (B : Tx K mg) {f : Addr} {cdv : Value} {A : Around} {outer : List PySem.Env} {s : Shared} {H : Hp} {E : XK} (hr : Room 0 (A.deeper (envOfC "_law_word" (defScope st__law_word) s.heap.objs.size f cdv))) :
    BJ (cxOf (L2N.CX P w) P w K mg base ["_law_text_here", "_law_stop"] "_law_word" (defScope st__law_word) f cdv A outer s H E) (fun cls d _ H => E cls d H) false (defBody st__law_word) D__law_word :=
  (b_cons (s_set (i := 1) sc__law_word.nd rfl (Or.inl rfl) e_int)
(b_cons (s_while hp_of (t_w (w_and (t_lt (e_varT (pv 1)) (e_s_t (e_len B.n_len (by rfl) (a_cons (e_varT (pv 0)) a_nil)))) (w_and1 (t_notInS (e_s_t (e_item (e_varT (pv 0)) (e_varT (pv 1)) (fun _ _ => rfl))) (e_s_t e_str)))))
(b_cons (s_set (i := 1) sc__law_word.nd rfl (Or.inl rfl) (e_add (e_varT (pv 1)) (e_s_t e_int)))
b_nil))
(b_cons (s_ret (e_slice (e_varT (pv 0)) o_none (o_some (e_var (pv 1)))))
b_nil)))
theorem ok__law_word (B : Tx K mg) : Okd P w K mg base "_law_word" ["_law_text_here"] 1 1 false F__law_word := def_ok B.d__law_word sc__law_word rfl (fun z => nomatch z) fun f cdv A outer s H E hr => bd__law_word B hr
theorem bd__law_shut (B : Tx K mg) {f : Addr} {cdv : Value} {A : Around} {outer : List PySem.Env} {s : Shared} {H : Hp} {E : XK} (hr : Room 0 (A.deeper (envOfC "_law_shut" (defScope st__law_shut) s.heap.objs.size f cdv))) :
    BJ (cxOf (L2N.CX P w) P w K mg base ["_law_stack", "_law_one", "_law_sign", "_law_other", "_law_weight"] "_law_shut" (defScope st__law_shut) f cdv A outer s H E) (fun cls d _ H => E cls d H) true (defBody st__law_shut) D__law_shut :=
  (b_cons (s_if (t_w (w_or (t_lt (e_s_t (e_len B.n_len (by rfl) (a_cons (e_varT (pv 0)) a_nil))) (e_s_t e_int)) (w_or (t_ne hr.units (e_s_t (e_item (e_varT (pv 0)) (e_s_t (e_neg (e_s_t e_int))) (fun _ _ => rfl))) (e_s_t e_str)) (w_or (t_not (t_val (e_isi (n := "list") B.n_isinstance (by rfl) (e_s_t (e_item (e_varT (pv 0)) (e_s_t (e_neg (e_s_t e_int))) (fun _ _ => rfl))) (pe_bltn (by rfl) B.n_list (by decide +kernel) rfl)))) (w_or1 (t_not (t_val (e_isi (n := "list") B.n_isinstance (by rfl) (e_s_t (e_item (e_varT (pv 0)) (e_s_t (e_neg (e_s_t e_int))) (fun _ _ => rfl))) (pe_bltn (by rfl) B.n_list (by decide +kernel) rfl)))))))))
(b_cons (s_retF e_nonF)
b_nil)
b_nil)
(b_cons (s_to (e_slice (e_varT (pv 0)) (o_some (e_neg (e_s_t e_int))) o_none) (g_tup rfl (gs_cons (g_name (pg_name (i := 1) sc__law_shut.nd rfl (Or.inl rfl))) (gs_cons (g_name (pg_name (i := 2) sc__law_shut.nd rfl (Or.inl rfl))) (gs_cons (g_name (pg_name (i := 3) sc__law_shut.nd rfl (Or.inl rfl))) gs_nil))) (gs_len (gs_len (gs_len gs_len0)))))
(b_cons (s_if (t_notIn (roomIn hr) (e_varT (pv 2)) (e_f_t (e_lst (a_cons e_str (a_cons e_str (a_cons e_str (a_cons e_str (a_cons e_str a_nil))))))))
(b_cons (s_retF e_nonF)
b_nil)
b_nil)
(b_cons (s_if (t_w (w_and (t_eq hr.units (e_varT (pv 2)) (e_s_t e_str)) (w_and1 (t_w (w_or (t_ne hr.units (e_s_t (e_len B.n_len (by rfl) (a_cons (e_s_t (e_item (e_varT (pv 3)) (e_s_t e_int) (fun _ _ => rfl))) a_nil))) (e_s_t e_int)) (w_or (t_notInS (e_s_t (e_item (e_varT (pv 3)) (e_s_t e_int) (fun _ _ => rfl))) (e_s_t e_str)) (w_or1 (t_isB (e_s_t (e_item (e_varT (pv 3)) (e_s_t e_int) (fun _ _ => rfl))) (e_s_t e_bl)))))))))
(b_cons (s_retF e_nonF)
b_nil)
b_nil)
(b_cons (s_set (i := 4) sc__law_shut.nd rfl (Or.inl rfl) (e_add (e_s_t (e_item (e_varT (pv 1)) (e_s_t e_int) (fun _ _ => rfl))) (e_s_t (e_item (e_varT (pv 3)) (e_s_t e_int) (fun _ _ => rfl)))))
(b_cons (s_if (t_eq hr.units (e_varT (pv 2)) (e_s_t e_str))
(b_cons (s_set (i := 4) sc__law_shut.nd rfl (Or.inl rfl) (e_mul (e_s_t (e_item (e_varT (pv 1)) (e_s_t e_int) (fun _ _ => rfl))) (e_s_t (e_intS B.n_int (by rfl) (a_cons (e_s_t (e_item (e_varT (pv 3)) (e_s_t e_int) (fun _ _ => rfl))) a_nil)))))
b_nil)
b_nil)
(b_cons (s_retF (e_addL (e_s_t (e_slice (e_varT (pv 0)) o_none (o_some (e_neg (e_s_t e_int))))) (e_f_t (e_lst (a_cons (e_f_s (e_lst (a_cons (e_add (e_s_t (e_add (e_s_t (e_add (e_s_t (e_add (e_s_t e_str) (e_s_t (e_item (e_varT (pv 1)) (e_s_t e_int) (fun _ _ => rfl))))) (e_varT (pv 2)))) (e_s_t (e_item (e_varT (pv 3)) (e_s_t e_int) (fun _ _ => rfl))))) (e_s_t e_str)) (a_cons (e_var (pv 4)) (a_cons e_bl a_nil))))) a_nil)))))
b_nil)))))))
theorem ok__law_shut (B : Tx K mg) : Okd P w K mg base "_law_shut" ["_law_stack"] 1 1 true F__law_shut := def_ok B.d__law_shut sc__law_shut rfl (fun _ => (nn_seqR (nn_seqR (nn_seqR (nn_seqR (nn_seqR (nn_seqR (nn_seqL (nn_ret _))))))))) fun f cdv A outer s H E hr => bd__law_shut B hr
theorem bd__law_due (B : Tx K mg) {f : Addr} {cdv : Value} {A : Around} {outer : List PySem.Env} {s : Shared} {H : Hp} {E : XK} (hr : Room 3 (A.deeper (envOfC "_law_due" (defScope st__law_due) s.heap.objs.size f cdv))) :
    BJ (cxOf (L2N.CX P w) P w K mg base ["_law_text_here", "_law_stack", "_law_rest", "_law_open_ones", "_law_word_here", "_law_part_here"] "_law_due" (defScope st__law_due) f cdv A outer s H E) (fun cls d _ H => E cls d H) false (defBody st__law_due) D__law_due :=
  (b_cons (s_setO (i := 1) sc__law_due.nd rfl (Or.inl rfl) (e_lst a_nil))
(b_cons (s_set (i := 2) sc__law_due.nd rfl (Or.inl rfl) (e_var (pv 0)))
(b_cons (s_set (i := 3) sc__law_due.nd rfl (Or.inl rfl) e_int)
(b_cons (s_while hp_of (t_w (w_and (t_ne hr.units (e_varT (pv 2)) (e_s_t e_str)) (w_and (t_notN (e_varT (pv 1)) (e_s_t e_non)) (w_and1 (t_le (e_varT (pv 3)) (e_s_t e_int))))))
(b_cons (s_if (t_eq hr.units (e_s_t (e_item (e_varT (pv 2)) (e_s_t e_int) (fun _ _ => rfl))) (e_s_t e_str))
(b_cons (s_app (i := 1) (pv 1) e_str)
(b_cons (s_set (i := 3) sc__law_due.nd rfl (Or.inl rfl) (e_add (e_varT (pv 3)) (e_s_t e_int)))
(b_cons (s_set (i := 2) sc__law_due.nd rfl (Or.inl rfl) (e_slice (e_varT (pv 2)) (o_some e_int) o_none))
b_nil)))
(b_cons (s_if (t_eq hr.units (e_s_t (e_item (e_varT (pv 2)) (e_s_t e_int) (fun _ _ => rfl))) (e_s_t e_str))
(s_frz (i := 1) (b_cons (s_setN (i := 1) sc__law_due.nd rfl (Or.inl rfl) (e_callD (ok__law_shut B) hr (by decide) tk_of (by rfl) (a_cons (e_var (pv 1)) a_nil) (ALen.cons ALen.nil)))
(b_cons (s_set (i := 3) sc__law_due.nd rfl (Or.inl rfl) (e_sub (e_varT (pv 3)) (e_s_t e_int)))
(b_cons (s_set (i := 2) sc__law_due.nd rfl (Or.inl rfl) (e_slice (e_varT (pv 2)) (o_some e_int) o_none))
b_nil))))
(b_cons (s_if (t_eq hr.units (e_s_t (e_item (e_varT (pv 2)) (e_s_t e_int) (fun _ _ => rfl))) (e_s_t e_str))
(b_cons (s_app (i := 1) (pv 1) (e_slice (e_varT (pv 2)) o_none (o_some e_int)))
(b_cons (s_set (i := 2) sc__law_due.nd rfl (Or.inl rfl) (e_slice (e_varT (pv 2)) (o_some e_int) o_none))
b_nil))
(b_cons (s_set (i := 4) sc__law_due.nd rfl (Or.inl rfl) (e_callD (ok__law_word B) hr (by decide) tk_of (by rfl) (a_cons (e_var (pv 2)) a_nil) (ALen.cons ALen.nil)))
(b_cons (s_set (i := 5) sc__law_due.nd rfl (Or.inl rfl) (e_callD (ok__law_part B) hr (by decide) tk_of (by rfl) (a_cons (e_var (pv 4)) a_nil) (ALen.cons ALen.nil)))
(b_cons (s_set (i := 2) sc__law_due.nd rfl (Or.inl rfl) (e_slice (e_varT (pv 2)) (o_some (e_len B.n_len (by rfl) (a_cons (e_varT (pv 4)) a_nil))) o_none))
(b_cons (s_app (i := 1) (pv 1) (e_f_s (e_lst (a_cons e_str (a_cons e_int (a_cons e_bl a_nil))))))
(b_cons (s_if (t_isN (e_varT (pv 5)) (e_s_t e_non))
(b_cons (s_setN (i := 1) sc__law_due.nd rfl (Or.inl rfl) e_nonF)
b_nil)
(b_cons (s_setI (i := 1) (pv 1) (e_f_s (e_lst (a_cons (e_item (e_varT (pv 5)) (e_s_t e_int) (fun _ _ => rfl)) (a_cons e_int (a_cons (e_eq hr.units (e_s_t (e_item (e_varT (pv 5)) (e_s_t e_int) (fun _ _ => rfl))) (e_varT (pv 4))) a_nil))))) (e_neg (e_s_t e_int)))
b_nil))
b_nil))))))
b_nil))
b_nil))
b_nil))
(b_cons (s_if (t_w (w_or (t_isN (e_varT (pv 1)) (e_s_t e_non)) (w_or (t_ne hr.units (e_varT (pv 2)) (e_s_t e_str)) (w_or (t_ne hr.units (e_s_t (e_len B.n_len (by rfl) (a_cons (e_varT (pv 1)) a_nil))) (e_s_t e_int)) (w_or (t_not (t_val (e_isi (n := "list") B.n_isinstance (by rfl) (e_s_t (e_item (e_varT (pv 1)) (e_s_t e_int) (fun _ _ => rfl))) (pe_bltn (by rfl) B.n_list (by decide +kernel) rfl)))) (w_or1 (t_gt (e_s_t (e_item (e_s_t (e_item (e_varT (pv 1)) (e_s_t e_int) (fun _ _ => rfl))) (e_s_t e_int) (fun _ _ => rfl))) (e_s_t e_int))))))))
(b_cons (s_ret e_non)
b_nil)
b_nil)
(b_cons (s_ret (e_item (e_s_t (e_item (e_varT (pv 1)) (e_s_t e_int) (fun _ _ => rfl))) (e_s_t e_int) (fun _ _ => rfl)))
b_nil))))))
theorem ok__law_due (B : Tx K mg) : Okd P w K mg base "_law_due" ["_law_text_here"] 4 1 false F__law_due := def_ok B.d__law_due sc__law_due rfl (fun z => nomatch z) fun f cdv A outer s H E hr => bd__law_due B hr
theorem bd__law_others (B : Tx K mg) {c : Str} (hc : c ∈ csL) {f : Addr} {cdv : Value} {A : Around} {outer : List PySem.Env} {s : Shared} {H : Hp} {E : XK} {p : Addr × Obj} {C : Addr} (hP : Pn K mg p c C) (hot : L2H.Hot1 (A.deeper (envOfC "_law_others" (defScope st__law_others) s.heap.objs.size f cdv)) p) (hr : L2H.RoomH 0 (A.deeper (envOfC "_law_others" (defScope st__law_others) s.heap.objs.size f cdv))) :
    BJ (L2H.cxH (L2N.CX P w) P w K mg base ["_law_e", "_law_some"] "_law_others" (defScope st__law_others) f cdv A outer s H E p) (fun _ _ _ _ => False) false (defBody st__law_others) (D__law_others c p.1) :=
  (b_cons (s_set (i := 1) sc__law_others.nd rfl (Or.inl rfl) (e_f_s (e_lst (a_cons (e_isX ⟨p.2, C, List.mem_cons_self, hP⟩ B.n_isinstance (by rfl) (pv 0) (ClsN.own (by rfl) B.u_NoPrime.choose_spec (by decide)) (fun C h => B.kq _ hc "NoPrime" (by decide) C _ h B.u_NoPrime.choose_spec)) (a_cons (e_isX ⟨p.2, C, List.mem_cons_self, hP⟩ B.n_isinstance (by rfl) (pv 0) (ClsN.own (by rfl) B.u_NoPlace.choose_spec (by decide)) (fun C h => B.kq _ hc "NoPlace" (by decide) C _ h B.u_NoPlace.choose_spec)) (a_cons (e_isX ⟨p.2, C, List.mem_cons_self, hP⟩ B.n_isinstance (by rfl) (pv 0) (ClsN.own (by rfl) B.u_NoFigures.choose_spec (by decide)) (fun C h => B.kq _ hc "NoFigures" (by decide) C _ h B.u_NoFigures.choose_spec)) (a_cons (e_isX ⟨p.2, C, List.mem_cons_self, hP⟩ B.n_isinstance (by rfl) (pv 0) (ClsN.own (by rfl) B.u_NoFraction.choose_spec (by decide)) (fun C h => B.kq _ hc "NoFraction" (by decide) C _ h B.u_NoFraction.choose_spec)) a_nil)))))))
(b_cons (s_set (i := 1) sc__law_others.nd rfl (Or.inl rfl) (e_add (e_varT (pv 1)) (e_f_t (e_lst (a_cons (e_isX ⟨p.2, C, List.mem_cons_self, hP⟩ B.n_isinstance (by rfl) (pv 0) (ClsN.own (by rfl) B.u_Unlike.choose_spec (by decide)) (fun C h => B.kq _ hc "Unlike" (by decide) C _ h B.u_Unlike.choose_spec)) (a_cons (e_isX ⟨p.2, C, List.mem_cons_self, hP⟩ B.n_isinstance (by rfl) (pv 0) (ClsN.own (by rfl) B.u_NoQuotient.choose_spec (by decide)) (fun C h => B.kq _ hc "NoQuotient" (by decide) C _ h B.u_NoQuotient.choose_spec)) (a_cons (e_isX ⟨p.2, C, List.mem_cons_self, hP⟩ B.n_isinstance (by rfl) (pv 0) (ClsN.own (by rfl) B.u_NoPower.choose_spec (by decide)) (fun C h => B.kq _ hc "NoPower" (by decide) C _ h B.u_NoPower.choose_spec)) (a_cons (e_isX ⟨p.2, C, List.mem_cons_self, hP⟩ B.n_isinstance (by rfl) (pv 0) (ClsN.own (by rfl) B.u_TooFew.choose_spec (by decide)) (fun C h => B.kq _ hc "TooFew" (by decide) C _ h B.u_TooFew.choose_spec)) a_nil))))))))
(b_cons (s_set (i := 1) sc__law_others.nd rfl (Or.inl rfl) (e_add (e_varT (pv 1)) (e_f_t (e_lst (a_cons (e_isX ⟨p.2, C, List.mem_cons_self, hP⟩ B.n_isinstance (by rfl) (pv 0) (ClsN.own (by rfl) B.u_NoSize.choose_spec (by decide)) (fun C h => B.kq _ hc "NoSize" (by decide) C _ h B.u_NoSize.choose_spec)) (a_cons (e_isX ⟨p.2, C, List.mem_cons_self, hP⟩ B.n_isinstance (by rfl) (pv 0) (ClsN.own (by rfl) B.u_NoPolynomial.choose_spec (by decide)) (fun C h => B.kq _ hc "NoPolynomial" (by decide) C _ h B.u_NoPolynomial.choose_spec)) (a_cons (e_isX ⟨p.2, C, List.mem_cons_self, hP⟩ B.n_isinstance (by rfl) (pv 0) (ClsN.own (by rfl) B.u_NoDepth.choose_spec (by decide)) (fun C h => B.kq _ hc "NoDepth" (by decide) C _ h B.u_NoDepth.choose_spec)) (a_cons (e_isX ⟨p.2, C, List.mem_cons_self, hP⟩ B.n_isinstance (by rfl) (pv 0) (ClsN.own (by rfl) B.u_NoRoot.choose_spec (by decide)) (fun C h => B.kq _ hc "NoRoot" (by decide) C _ h B.u_NoRoot.choose_spec)) a_nil))))))))
(b_cons (s_ret (e_or (e_anyH List.mem_cons_self hot B.n_any (by rfl) (a_cons (e_varT (pv 1)) a_nil)) (e_one (e_isX ⟨p.2, C, List.mem_cons_self, hP⟩ B.n_isinstance (by rfl) (pv 0) (ClsN.own (by rfl) B.u_NotNear.choose_spec (by decide)) (fun C h => B.kq _ hc "NotNear" (by decide) C _ h B.u_NotNear.choose_spec)))))
b_nil))))
theorem ok__law_others (B : Tx K mg) {c : Str} (hc : c ∈ csL) : OkX P w K mg base "_law_others" "_law_e" 1 false c (F__law_others c) := def_okX B.d__law_others sc__law_others (by decide) (fun z => nomatch z) fun f cdv A outer s H E p C hP hot hr => bd__law_others B hc hP hot hr
theorem bd__law_refused (B : Tx K mg) {f : Addr} {cdv : Value} {A : Around} {outer : List PySem.Env} {s : Shared} {H : Hp} {E : XK} (hr : Room 30 (A.deeper (envOfC "_law_refused" (defScope st__law_refused) s.heap.objs.size f cdv))) :
    BJ (cxOf (L2N.CX P w) P w K mg base ["_law_thing", "_law_found", "_law_e"] "_law_refused" (defScope st__law_refused) f cdv A outer s H E) (fun cls d _ H => E cls d H) false (defBody st__law_refused) (D__law_refused (addrOf mg)) :=
  (b_cons (s_set (i := 1) sc__law_refused.nd rfl (Or.inl rfl) e_bl)
(b_cons (s_try (i := 2) rfl rfl sc__law_refused.nd rfl rfl ⟨by rfl, by decide, .inl B.u_LeftError.choose_spec⟩ tk_of (fun c hc C h => B.ke c hc C _ h B.u_LeftError.choose_spec) (fun W pn xe tk hp => (b_cons (s_expr (e_callD (ok_read_term B) hr (by decide) tk (by rfl) (a_cons (e_var (pv 0)) a_nil) (ALen.cons ALen.nil)))
b_nil)) (fun p pn c C hc hP hot => (b_cons (s_set (i := 1) sc__law_refused.nd rfl (Or.inl rfl) (e_and (e_isX ⟨p.2, C, List.mem_cons_self, hP⟩ B.n_isinstance (by rfl) (pv 2) (ClsN.own (by rfl) B.u_NoText.choose_spec (by decide)) (fun C h => B.kq _ hc "NoText" (by decide) C _ h B.u_NoText.choose_spec)) (e_and (e_isX ⟨p.2, C, List.mem_cons_self, hP⟩ B.n_isinstance (by rfl) (pv 2) (ClsN.ty (pe_bltn (by rfl) B.n_ValueError (by decide +kernel) rfl)) (fun C h => B.kv _ hc C h)) (e_one (e_not (e_hot List.mem_cons_self hP hot rfl (ok__law_others B hc) (roomS hr) (by decide) (by rfl) (pv 2)))))))
b_nil)))
(b_cons (s_ret (e_var (pv 1)))
b_nil)))
theorem ok__law_refused (B : Tx K mg) : Okd P w K mg base "_law_refused" ["_law_thing"] 31 1 false (F__law_refused (addrOf mg)) := def_ok B.d__law_refused sc__law_refused rfl (fun z => nomatch z) fun f cdv A outer s H E hr => bd__law_refused B hr
theorem bd_Part_shown (B : Tx K mg) {n : Nat} {f : Addr} {cdv : Value} {A : Around} {outer : List PySem.Env} {s : Shared} {H : Hp} {E : XK} (hr : Room (1 + n) (A.deeper (envOfC "Part.shown" (defScope st_Part_shown) s.heap.objs.size f cdv))) :
    BJ (cxOf (L2N.CX P w) P w K mg base ["self"] "Part.shown" (defScope st_Part_shown) f cdv A outer s H E) (fun cls d _ H => E cls d H) false (defBody st_Part_shown) (D_Part_shown (addrOf mg)) :=
  (b_cons (s_if (t_eq hr.units (e_s_t (e_item (e_s_t (e_fld (by decide) (e_var (pv 0)))) (e_s_t e_int) (fun _ _ => rfl))) (e_s_t e_int))
(b_cons (s_ret (e_strI B.n_str (by rfl) (a_cons (e_s_t (e_item (e_s_t (e_fld (by decide) (e_var (pv 0)))) (e_s_t e_int) (fun _ _ => rfl))) a_nil)))
b_nil)
b_nil)
(b_cons (s_ret (e_add (e_s_t (e_add (e_s_t (e_strI B.n_str (by rfl) (a_cons (e_s_t (e_item (e_s_t (e_fld (by decide) (e_var (pv 0)))) (e_s_t e_int) (fun _ _ => rfl))) a_nil))) (e_s_t e_str))) (e_s_t (e_strI B.n_str (by rfl) (a_cons (e_s_t (e_item (e_s_t (e_fld (by decide) (e_var (pv 0)))) (e_s_t e_int) (fun _ _ => rfl))) a_nil)))))
b_nil))
theorem bd_Sum_sign (B : Tx K mg) {f : Addr} {cdv : Value} {A : Around} {outer : List PySem.Env} {s : Shared} {H : Hp} {E : XK} (hr : Room 0 (A.deeper (envOfC "Sum.sign" (defScope st_Sum_sign) s.heap.objs.size f cdv))) :
    BJ (cxOf (L2N.CX P w) P w K mg base ["self"] "Sum.sign" (defScope st_Sum_sign) f cdv A outer s H E) (fun cls d _ H => E cls d H) false (defBody st_Sum_sign) (D_Sum_sign (addrOf mg)) :=
  (b_cons (s_ret e_str)
b_nil)
theorem bd_Difference_sign (B : Tx K mg) {f : Addr} {cdv : Value} {A : Around} {outer : List PySem.Env} {s : Shared} {H : Hp} {E : XK} (hr : Room 0 (A.deeper (envOfC "Difference.sign" (defScope st_Difference_sign) s.heap.objs.size f cdv))) :
    BJ (cxOf (L2N.CX P w) P w K mg base ["self"] "Difference.sign" (defScope st_Difference_sign) f cdv A outer s H E) (fun cls d _ H => E cls d H) false (defBody st_Difference_sign) (D_Difference_sign (addrOf mg)) :=
  (b_cons (s_ret e_str)
b_nil)
theorem bd_Product_sign (B : Tx K mg) {f : Addr} {cdv : Value} {A : Around} {outer : List PySem.Env} {s : Shared} {H : Hp} {E : XK} (hr : Room 0 (A.deeper (envOfC "Product.sign" (defScope st_Product_sign) s.heap.objs.size f cdv))) :
    BJ (cxOf (L2N.CX P w) P w K mg base ["self"] "Product.sign" (defScope st_Product_sign) f cdv A outer s H E) (fun cls d _ H => E cls d H) false (defBody st_Product_sign) (D_Product_sign (addrOf mg)) :=
  (b_cons (s_ret e_str)
b_nil)
theorem bd_Quotient_sign (B : Tx K mg) {f : Addr} {cdv : Value} {A : Around} {outer : List PySem.Env} {s : Shared} {H : Hp} {E : XK} (hr : Room 0 (A.deeper (envOfC "Quotient.sign" (defScope st_Quotient_sign) s.heap.objs.size f cdv))) :
    BJ (cxOf (L2N.CX P w) P w K mg base ["self"] "Quotient.sign" (defScope st_Quotient_sign) f cdv A outer s H E) (fun cls d _ H => E cls d H) false (defBody st_Quotient_sign) (D_Quotient_sign (addrOf mg)) :=
  (b_cons (s_ret e_str)
b_nil)
theorem okm_sign (B : Tx K mg) : Okm P w K mg base "sign" (cs4 (addrOf mg)) 1 1 false (G_sign (addrOf mg)) := okm_pick (L := tab4 (addrOf mg) (runF 1 (D_Sum_sign (addrOf mg))) (runF 1 (D_Difference_sign (addrOf mg))) (runF 1 (D_Product_sign (addrOf mg))) (runF 1 (D_Quotient_sign (addrOf mg)))) (cs4_nodup B.ms) (fa_cons ⟨B.cl_Sum.c.cl, meth_fn (nw := false) (k := 0) B.mm_Sum_sign sc_Sum_sign rfl (fun z => nomatch z) fun f cdv A outer s H E hr => bd_Sum_sign B hr⟩
    (fa_cons ⟨B.cl_Difference.c.cl, meth_fn (nw := false) (k := 0) B.mm_Difference_sign sc_Difference_sign rfl (fun z => nomatch z) fun f cdv A outer s H E hr => bd_Difference_sign B hr⟩
    (fa_cons ⟨B.cl_Product.c.cl, meth_fn (nw := false) (k := 0) B.mm_Product_sign sc_Product_sign rfl (fun z => nomatch z) fun f cdv A outer s H E hr => bd_Product_sign B hr⟩
    (fa_cons ⟨B.cl_Quotient.c.cl, meth_fn (nw := false) (k := 0) B.mm_Quotient_sign sc_Quotient_sign rfl (fun z => nomatch z) fun f cdv A outer s H E hr => bd_Quotient_sign B hr⟩
    fa_nil))))
theorem bd_Pair_shown (B : Tx K mg) {n : Nat} {V : Addr → List PV → R PV} (ih : Okm P w K mg base "shown" (cs6 (addrOf mg)) (1 + n) 1 false V) {f : Addr} {cdv : Value} {A : Around} {outer : List PySem.Env} {s : Shared} {H : Hp} {E : XK} (hr : Room (1 + n) (A.deeper (envOfC "Pair.shown" (defScope st_Pair_shown) s.heap.objs.size f cdv))) :
    BJ (cxOf (L2N.CX P w) P w K mg base ["self"] "Pair.shown" (defScope st_Pair_shown) f cdv A outer s H E) (fun cls d _ H => E cls d H) false (defBody st_Pair_shown) (D_Pair_shown (addrOf mg) V) :=
  (b_cons (s_ret (e_add (e_s_t (e_add (e_s_t (e_add (e_s_t (e_add (e_s_t (e_add (e_s_t (e_add (e_s_t e_str) (e_s_t (e_meth0 ih hr (by omega) tk_of (List.cons_ne_nil _ _) (e_fld (by decide) (e_var (pv 0))))))) (e_s_t e_str))) (e_s_t (e_meth0 (okm_sign B) hr (by omega) tk_of (List.cons_ne_nil _ _) (e_var (pv 0)))))) (e_s_t e_str))) (e_s_t (e_meth0 ih hr (by omega) tk_of (List.cons_ne_nil _ _) (e_fld (by decide) (e_var (pv 0))))))) (e_s_t e_str)))
b_nil)
theorem bd_Power_shown (B : Tx K mg) {n : Nat} {V : Addr → List PV → R PV} (ih : Okm P w K mg base "shown" (cs6 (addrOf mg)) (1 + n) 1 false V) {f : Addr} {cdv : Value} {A : Around} {outer : List PySem.Env} {s : Shared} {H : Hp} {E : XK} (hr : Room (1 + n) (A.deeper (envOfC "Power.shown" (defScope st_Power_shown) s.heap.objs.size f cdv))) :
    BJ (cxOf (L2N.CX P w) P w K mg base ["self"] "Power.shown" (defScope st_Power_shown) f cdv A outer s H E) (fun cls d _ H => E cls d H) false (defBody st_Power_shown) (D_Power_shown (addrOf mg) V) :=
  (b_cons (s_ret (e_add (e_s_t (e_add (e_s_t (e_add (e_s_t (e_add (e_s_t e_str) (e_s_t (e_meth0 ih hr (by omega) tk_of (List.cons_ne_nil _ _) (e_fld (by decide) (e_var (pv 0))))))) (e_s_t e_str))) (e_s_t (e_strI B.n_str (by rfl) (a_cons (e_s_t (e_fld (by decide) (e_var (pv 0)))) a_nil))))) (e_s_t e_str)))
b_nil)
theorem okm_shown (B : Tx K mg) : ∀ n : Nat, Okm P w K mg base "shown" (cs6 (addrOf mg)) (1 + n) 1 false (G_shown (addrOf mg) n)
  | 0 => okm_pick (L := tab6 (addrOf mg) (fun _ => .stuck) (fun _ => .stuck) (fun _ => .stuck) (fun _ => .stuck) (fun _ => .stuck) (fun _ => .stuck)) B.ms (fa_cons ⟨B.cl_Part.c.cl, meth_stuck B.mm_Part_shown rfl⟩ (fa_cons ⟨B.cl_Sum.c.cl, meth_stuck B.mm_Sum_shown rfl⟩ (fa_cons ⟨B.cl_Difference.c.cl, meth_stuck B.mm_Difference_shown rfl⟩ (fa_cons ⟨B.cl_Product.c.cl, meth_stuck B.mm_Product_shown rfl⟩ (fa_cons ⟨B.cl_Quotient.c.cl, meth_stuck B.mm_Quotient_shown rfl⟩ (fa_cons ⟨B.cl_Power.c.cl, meth_stuck B.mm_Power_shown rfl⟩ fa_nil))))))
  | n + 1 => okm_pick (L := tab6 (addrOf mg) (runF 1 (D_Part_shown (addrOf mg))) (runF 1 (D_Pair_shown (addrOf mg) (G_shown (addrOf mg) n))) (runF 1 (D_Pair_shown (addrOf mg) (G_shown (addrOf mg) n))) (runF 1 (D_Pair_shown (addrOf mg) (G_shown (addrOf mg) n))) (runF 1 (D_Pair_shown (addrOf mg) (G_shown (addrOf mg) n))) (runF 1 (D_Power_shown (addrOf mg) (G_shown (addrOf mg) n)))) B.ms (fa_cons ⟨B.cl_Part.c.cl, meth_fn (nw := false) (k := 1 + n) B.mm_Part_shown sc_Part_shown rfl (fun z => nomatch z) fun f cdv A outer s H E hr => bd_Part_shown B (n := n) hr⟩
    (fa_cons ⟨B.cl_Sum.c.cl, meth_fn (nw := false) (k := 1 + n) B.mm_Sum_shown sc_Pair_shown rfl (fun z => nomatch z) fun f cdv A outer s H E hr => bd_Pair_shown B (okm_shown B n) hr⟩
    (fa_cons ⟨B.cl_Difference.c.cl, meth_fn (nw := false) (k := 1 + n) B.mm_Difference_shown sc_Pair_shown rfl (fun z => nomatch z) fun f cdv A outer s H E hr => bd_Pair_shown B (okm_shown B n) hr⟩
    (fa_cons ⟨B.cl_Product.c.cl, meth_fn (nw := false) (k := 1 + n) B.mm_Product_shown sc_Pair_shown rfl (fun z => nomatch z) fun f cdv A outer s H E hr => bd_Pair_shown B (okm_shown B n) hr⟩
    (fa_cons ⟨B.cl_Quotient.c.cl, meth_fn (nw := false) (k := 1 + n) B.mm_Quotient_shown sc_Pair_shown rfl (fun z => nomatch z) fun f cdv A outer s H E hr => bd_Pair_shown B (okm_shown B n) hr⟩
    (fa_cons ⟨B.cl_Power.c.cl, meth_fn (nw := false) (k := 1 + n) B.mm_Power_shown sc_Power_shown rfl (fun z => nomatch z) fun f cdv A outer s H E hr => bd_Power_shown B (okm_shown B n) hr⟩
    fa_nil))))))
theorem bd_law (B : Tx K mg) {f : Addr} {cdv : Value} {A : Around} {outer : List PySem.Env} {s : Shared} {H : Hp} {E : XK} (hr : Room 31 (A.deeper (envOfC "law" (defScope st_law) s.heap.objs.size f cdv))) :
    BJ (cxOf (L2N.CX P w) P w K mg base ["_law_script", "_law_cell", "_law_text_here", "_law_due_here"] "law" (defScope st_law) f cdv A outer s H E) (fun cls d _ H => E cls d H) false (defBody st_law) (D_law (addrOf mg)) :=
  (b_cons (s_set (i := 1) sc_law.nd rfl (Or.inl rfl) (e_callD (ok__law_cell_at B) hr (by decide) tk_of (by rfl) (a_cons (e_var (pv 0)) (a_cons e_int a_nil)) (ALen.cons (ALen.cons ALen.nil))))
(b_cons (s_if (t_eq hr.units (e_s_t (e_mod (e_varT (pv 1)) (e_s_t e_int))) (e_s_t e_int))
(b_cons (s_ret (e_callD (ok__law_refused B) hr (by decide) tk_of (by rfl) (a_cons (e_item (e_f_t (e_lst (a_cons e_non (a_cons e_int (a_cons (e_f_s (e_lst (a_cons e_str a_nil))) (a_cons e_bl (a_cons (e_tup (a_cons e_int (a_cons e_int a_nil))) a_nil))))))) (e_s_t (e_mod (e_s_t (e_fdiv (e_varT (pv 1)) (e_s_t e_int))) (e_s_t e_int))) (fun _ _ => rfl)) a_nil) (ALen.cons ALen.nil)))
b_nil)
b_nil)
(b_cons (s_set (i := 2) sc_law.nd rfl (Or.inl rfl) (e_callD (ok__law_text B) hr (by decide) tk_of (by rfl) (a_cons (e_slice (e_varT (pv 0)) (o_some e_int) (o_some e_int)) a_nil) (ALen.cons ALen.nil)))
(b_cons (s_if (t_eq hr.units (e_s_t (e_mod (e_varT (pv 1)) (e_s_t e_int))) (e_s_t e_int))
(b_cons (s_set (i := 2) sc_law.nd rfl (Or.inl rfl) (e_callD (ok__law_border B) hr (by decide) tk_of (by rfl) (a_cons (e_fdiv (e_varT (pv 1)) (e_s_t e_int)) a_nil) (ALen.cons ALen.nil)))
b_nil)
(b_cons (s_if (t_gt (e_s_t (e_mod (e_varT (pv 1)) (e_s_t e_int))) (e_s_t e_int))
(b_cons (s_set (i := 2) sc_law.nd rfl (Or.inl rfl) (e_callD (ok__law_spoiled B) hr (by decide) tk_of (by rfl) (a_cons (e_var (pv 2)) (a_cons (e_callD (ok__law_cell_at B) hr (by decide) tk_of (by rfl) (a_cons (e_var (pv 0)) (a_cons e_int a_nil)) (ALen.cons (ALen.cons ALen.nil))) (a_cons (e_callD (ok__law_cell_at B) hr (by decide) tk_of (by rfl) (a_cons (e_var (pv 0)) (a_cons e_int a_nil)) (ALen.cons (ALen.cons ALen.nil))) a_nil))) (ALen.cons (ALen.cons (ALen.cons ALen.nil)))))
b_nil)
b_nil)
b_nil))
(b_cons (s_if (t_eq hr.units (e_s_t (e_mod (e_varT (pv 1)) (e_s_t e_int))) (e_s_t e_int))
(b_cons (s_set (i := 2) sc_law.nd rfl (Or.inl rfl) (e_callD (ok__law_spoiled B) hr (by decide) tk_of (by rfl) (a_cons (e_var (pv 2)) (a_cons (e_fdiv (e_s_t (e_callD (ok__law_cell_at B) hr (by decide) tk_of (by rfl) (a_cons (e_var (pv 0)) (a_cons e_int a_nil)) (ALen.cons (ALen.cons ALen.nil)))) (e_s_t e_int)) (a_cons (e_fdiv (e_s_t (e_callD (ok__law_cell_at B) hr (by decide) tk_of (by rfl) (a_cons (e_var (pv 0)) (a_cons e_int a_nil)) (ALen.cons (ALen.cons ALen.nil)))) (e_s_t e_int)) a_nil))) (ALen.cons (ALen.cons (ALen.cons ALen.nil)))))
b_nil)
b_nil)
(b_cons (s_set (i := 3) sc_law.nd rfl (Or.inl rfl) (e_callD (ok__law_due B) hr (by decide) tk_of (by rfl) (a_cons (e_var (pv 2)) a_nil) (ALen.cons ALen.nil)))
(b_cons (s_if (t_isN (e_varT (pv 3)) (e_s_t e_non))
(b_cons (s_ret (e_callD (ok__law_refused B) hr (by decide) tk_of (by rfl) (a_cons (e_var (pv 2)) a_nil) (ALen.cons ALen.nil)))
b_nil)
b_nil)
(b_cons (s_ret (e_eq hr.units (e_s_t (e_meth0 (okm_shown B 14) hr (by decide) tk_of (List.cons_ne_nil _ _) (e_callD (ok_read_term B) hr (by decide) tk_of (by rfl) (a_cons (e_var (pv 2)) a_nil) (ALen.cons ALen.nil)))) (e_varT (pv 3))))
b_nil))))))))
end
theorem all_mk {l : PySem.W.OpenLaw} {w : World} {K : PySem.W.Frag} {h : Heap} {mg : Str → Option Value} {fa : Addr} (X : K.In h) (G : h.Ns mainGlobals mg) (hfa : mg "law" = some (.ref fa))
    {f0 : Addr} {od0 an0 : Option Addr} {sl0 : Array (Option Value)} {oc0 kV0 dc0 pm0 cd0 ct0 : Value}
    {f1 : Addr} {od1 an1 : Option Addr} {sl1 : Array (Option Value)} {oc1 kV1 dc1 pm1 cd1 ct1 : Value}
    {f2 : Addr} {od2 an2 : Option Addr} {sl2 : Array (Option Value)} {oc2 kV2 dc2 pm2 cd2 ct2 : Value} {T2 : Addr} {td2 : Option Addr} {tc2 : Value} {tm2 : Nat} {tt2 : Tok} {tl2 : Array (Option Value)}
    {f3 : Addr} {od3 an3 : Option Addr} {sl3 : Array (Option Value)} {oc3 kV3 dc3 pm3 cd3 ct3 : Value}
    {f4 : Addr} {od4 an4 : Option Addr} {sl4 : Array (Option Value)} {oc4 kV4 dc4 pm4 cd4 ct4 : Value}
    {f5 : Addr} {od5 an5 : Option Addr} {sl5 : Array (Option Value)} {oc5 kV5 dc5 pm5 cd5 ct5 : Value}
    {f6 : Addr} {od6 an6 : Option Addr} {sl6 : Array (Option Value)} {oc6 kV6 dc6 pm6 cd6 ct6 : Value}
    {f7 : Addr} {od7 an7 : Option Addr} {sl7 : Array (Option Value)} {oc7 kV7 dc7 pm7 cd7 ct7 : Value}
    {f8 : Addr} {od8 an8 : Option Addr} {sl8 : Array (Option Value)} {oc8 kV8 dc8 pm8 cd8 ct8 : Value}
    {f9 : Addr} {od9 an9 : Option Addr} {sl9 : Array (Option Value)} {oc9 kV9 dc9 pm9 cd9 ct9 : Value}
    {f10 : Addr} {od10 an10 : Option Addr} {sl10 : Array (Option Value)} {oc10 kV10 dc10 pm10 cd10 ct10 : Value}
    {f11 : Addr} {od11 an11 : Option Addr} {sl11 : Array (Option Value)} {oc11 kV11 dc11 pm11 cd11 ct11 : Value}
    {f12 : Addr} {od12 an12 : Option Addr} {sl12 : Array (Option Value)} {oc12 kV12 dc12 pm12 cd12 ct12 : Value}
    {f13 : Addr} {od13 an13 : Option Addr} {sl13 : Array (Option Value)} {oc13 kV13 dc13 pm13 cd13 ct13 : Value}
    {f14 : Addr} {od14 an14 : Option Addr} {sl14 : Array (Option Value)} {oc14 kV14 dc14 pm14 cd14 ct14 : Value}
    {f15 : Addr} {od15 an15 : Option Addr} {sl15 : Array (Option Value)} {oc15 kV15 dc15 pm15 cd15 ct15 : Value}
    {f16 : Addr} {od16 an16 : Option Addr} {sl16 : Array (Option Value)} {oc16 kV16 dc16 pm16 cd16 ct16 : Value}
    {f17 : Addr} {od17 an17 : Option Addr} {sl17 : Array (Option Value)} {oc17 kV17 dc17 pm17 cd17 ct17 : Value}
    {f18 : Addr} {od18 an18 : Option Addr} {sl18 : Array (Option Value)} {oc18 kV18 dc18 pm18 cd18 ct18 : Value}
    {f19 : Addr} {od19 an19 : Option Addr} {sl19 : Array (Option Value)} {oc19 kV19 dc19 pm19 cd19 ct19 : Value}
    {f20 : Addr} {od20 an20 : Option Addr} {sl20 : Array (Option Value)} {oc20 kV20 dc20 pm20 cd20 ct20 : Value}
    {f21 : Addr} {od21 an21 : Option Addr} {sl21 : Array (Option Value)} {oc21 kV21 dc21 pm21 cd21 ct21 : Value}
    {f22 : Addr} {od22 an22 : Option Addr} {sl22 : Array (Option Value)} {oc22 kV22 dc22 pm22 cd22 ct22 : Value}
    {t0 : Tok}
    {t1 : Tok}
    {t2 : Tok}
    {t3 : Tok}
    {t4 : Tok}
    {C0 : Addr}
    {C1 : Addr}
    {U0 : Addr}
    {U1 : Addr}
    {U2 : Addr}
    {U3 : Addr}
    {U4 : Addr}
    {U5 : Addr}
    {U6 : Addr}
    {U7 : Addr}
    {U8 : Addr}
    {U9 : Addr}
    {U10 : Addr}
    {U11 : Addr}
    {U12 : Addr}
    {U13 : Addr}
    {U14 : Addr}
    {Y0 : Addr}
    {Y1 : Addr}
    {Y2 : Addr}
    {Y3 : Addr}
    {Y4 : Addr}
    {Y5 : Addr}
    {fm0 : Addr} {odm0 anm0 : Option Addr} {slm0 : Array (Option Value)} {ocm0 kVm0 dcm0 pmm0 cdm0 ctm0 : Value}
    {fm1 : Addr} {odm1 anm1 : Option Addr} {slm1 : Array (Option Value)} {ocm1 kVm1 dcm1 pmm1 cdm1 ctm1 : Value}
    {fm2 : Addr} {odm2 anm2 : Option Addr} {slm2 : Array (Option Value)} {ocm2 kVm2 dcm2 pmm2 cdm2 ctm2 : Value}
    {fm3 : Addr} {odm3 anm3 : Option Addr} {slm3 : Array (Option Value)} {ocm3 kVm3 dcm3 pmm3 cdm3 ctm3 : Value}
    {fm4 : Addr} {odm4 anm4 : Option Addr} {slm4 : Array (Option Value)} {ocm4 kVm4 dcm4 pmm4 cdm4 ctm4 : Value}
    {fm5 : Addr} {odm5 anm5 : Option Addr} {slm5 : Array (Option Value)} {ocm5 kVm5 dcm5 pmm5 cdm5 ctm5 : Value}
    {fm6 : Addr} {odm6 anm6 : Option Addr} {slm6 : Array (Option Value)} {ocm6 kVm6 dcm6 pmm6 cdm6 ctm6 : Value}
    {fm7 : Addr} {odm7 anm7 : Option Addr} {slm7 : Array (Option Value)} {ocm7 kVm7 dcm7 pmm7 cdm7 ctm7 : Value}
    {fm8 : Addr} {odm8 anm8 : Option Addr} {slm8 : Array (Option Value)} {ocm8 kVm8 dcm8 pmm8 cdm8 ctm8 : Value}
    {fm9 : Addr} {odm9 anm9 : Option Addr} {slm9 : Array (Option Value)} {ocm9 kVm9 dcm9 pmm9 cdm9 ctm9 : Value}
    {fm10 : Addr} {odm10 anm10 : Option Addr} {slm10 : Array (Option Value)} {ocm10 kVm10 dcm10 pmm10 cdm10 ctm10 : Value}
    {fm11 : Addr} {odm11 anm11 : Option Addr} {slm11 : Array (Option Value)} {ocm11 kVm11 dcm11 pmm11 cdm11 ctm11 : Value}
    {fm12 : Addr} {odm12 anm12 : Option Addr} {slm12 : Array (Option Value)} {ocm12 kVm12 dcm12 pmm12 cdm12 ctm12 : Value}
    (a0 : PySem.W.nsIn K mainGlobals "is_whole" = some (some (.ref f0))) (l0 : K.lookup f0 = some ⟨oc0, od0, .func (PySem.W.fnOf "is_whole" "is_whole" (defArgs st_is_whole) (defBody st_is_whole) (defScope st_is_whole) .none kV0 dc0 pm0 an0 cd0 ct0), sl0⟩) (c0 : PySem.W.codeIn K cd0 "is_whole" = true) (k0 : PySem.W.keepIn K (.ref f0) = true)
    (a1 : PySem.W.nsIn K mainGlobals "divisor" = some (some (.ref f1))) (l1 : K.lookup f1 = some ⟨oc1, od1, .func (PySem.W.fnOf "divisor" "divisor" (defArgs st_divisor) (defBody st_divisor) (defScope st_divisor) .none kV1 dc1 pm1 an1 cd1 ct1), sl1⟩) (c1 : PySem.W.codeIn K cd1 "divisor" = true) (k1 : PySem.W.keepIn K (.ref f1) = true)
    (a2 : PySem.W.nsIn K mainGlobals "fraction" = some (some (.ref f2))) (l2 : K.lookup f2 = some ⟨oc2, od2, .func (PySem.W.fnOf "fraction" "fraction" (defArgs st_fraction) (defBody st_fraction) (defScope st_fraction) (.ref T2) kV2 dc2 pm2 an2 cd2 ct2), sl2⟩) (c2 : PySem.W.codeIn K cd2 "fraction" = true) (k2 : PySem.W.keepIn K (.ref f2) = true) (lt2 : K.lookup T2 = some ⟨tc2, td2, .seq #[.int 1 tt2] tm2, tl2⟩)
    (a3 : PySem.W.nsIn K mainGlobals "number_of" = some (some (.ref f3))) (l3 : K.lookup f3 = some ⟨oc3, od3, .func (PySem.W.fnOf "number_of" "number_of" (defArgs st_number_of) (defBody st_number_of) (defScope st_number_of) .none kV3 dc3 pm3 an3 cd3 ct3), sl3⟩) (c3 : PySem.W.codeIn K cd3 "number_of" = true) (k3 : PySem.W.keepIn K (.ref f3) = true)
    (a4 : PySem.W.nsIn K mainGlobals "whole_of" = some (some (.ref f4))) (l4 : K.lookup f4 = some ⟨oc4, od4, .func (PySem.W.fnOf "whole_of" "whole_of" (defArgs st_whole_of) (defBody st_whole_of) (defScope st_whole_of) .none kV4 dc4 pm4 an4 cd4 ct4), sl4⟩) (c4 : PySem.W.codeIn K cd4 "whole_of" = true) (k4 : PySem.W.keepIn K (.ref f4) = true)
    (a5 : PySem.W.nsIn K mainGlobals "part_of" = some (some (.ref f5))) (l5 : K.lookup f5 = some ⟨oc5, od5, .func (PySem.W.fnOf "part_of" "part_of" (defArgs st_part_of) (defBody st_part_of) (defScope st_part_of) .none kV5 dc5 pm5 an5 cd5 ct5), sl5⟩) (c5 : PySem.W.codeIn K cd5 "part_of" = true) (k5 : PySem.W.keepIn K (.ref f5) = true)
    (a6 : PySem.W.nsIn K mainGlobals "word_at" = some (some (.ref f6))) (l6 : K.lookup f6 = some ⟨oc6, od6, .func (PySem.W.fnOf "word_at" "word_at" (defArgs st_word_at) (defBody st_word_at) (defScope st_word_at) .none kV6 dc6 pm6 an6 cd6 ct6), sl6⟩) (c6 : PySem.W.codeIn K cd6 "word_at" = true) (k6 : PySem.W.keepIn K (.ref f6) = true)
    (a7 : PySem.W.nsIn K mainGlobals "of_two" = some (some (.ref f7))) (l7 : K.lookup f7 = some ⟨oc7, od7, .func (PySem.W.fnOf "of_two" "of_two" (defArgs st_of_two) (defBody st_of_two) (defScope st_of_two) .none kV7 dc7 pm7 an7 cd7 ct7), sl7⟩) (c7 : PySem.W.codeIn K cd7 "of_two" = true) (k7 : PySem.W.keepIn K (.ref f7) = true)
    (a8 : PySem.W.nsIn K mainGlobals "read_deed" = some (some (.ref f8))) (l8 : K.lookup f8 = some ⟨oc8, od8, .func (PySem.W.fnOf "read_deed" "read_deed" (defArgs st_read_deed) (defBody st_read_deed) (defScope st_read_deed) .none kV8 dc8 pm8 an8 cd8 ct8), sl8⟩) (c8 : PySem.W.codeIn K cd8 "read_deed" = true) (k8 : PySem.W.keepIn K (.ref f8) = true)
    (a9 : PySem.W.nsIn K mainGlobals "read_at" = some (some (.ref f9))) (l9 : K.lookup f9 = some ⟨oc9, od9, .func (PySem.W.fnOf "read_at" "read_at" (defArgs st_read_at) (defBody st_read_at) (defScope st_read_at) .none kV9 dc9 pm9 an9 cd9 ct9), sl9⟩) (c9 : PySem.W.codeIn K cd9 "read_at" = true) (k9 : PySem.W.keepIn K (.ref f9) = true)
    (a10 : PySem.W.nsIn K mainGlobals "read_term" = some (some (.ref f10))) (l10 : K.lookup f10 = some ⟨oc10, od10, .func (PySem.W.fnOf "read_term" "read_term" (defArgs st_read_term) (defBody st_read_term) (defScope st_read_term) .none kV10 dc10 pm10 an10 cd10 ct10), sl10⟩) (c10 : PySem.W.codeIn K cd10 "read_term" = true) (k10 : PySem.W.keepIn K (.ref f10) = true)
    (a11 : PySem.W.nsIn K mainGlobals "_law_cell_at" = some (some (.ref f11))) (l11 : K.lookup f11 = some ⟨oc11, od11, .func (PySem.W.fnOf "_law_cell_at" "_law_cell_at" (defArgs st__law_cell_at) (defBody st__law_cell_at) (defScope st__law_cell_at) .none kV11 dc11 pm11 an11 cd11 ct11), sl11⟩) (c11 : PySem.W.codeIn K cd11 "_law_cell_at" = true) (k11 : PySem.W.keepIn K (.ref f11) = true)
    (a12 : PySem.W.nsIn K mainGlobals "_law_text" = some (some (.ref f12))) (l12 : K.lookup f12 = some ⟨oc12, od12, .func (PySem.W.fnOf "_law_text" "_law_text" (defArgs st__law_text) (defBody st__law_text) (defScope st__law_text) .none kV12 dc12 pm12 an12 cd12 ct12), sl12⟩) (c12 : PySem.W.codeIn K cd12 "_law_text" = true) (k12 : PySem.W.keepIn K (.ref f12) = true)
    (a13 : PySem.W.nsIn K mainGlobals "_law_spoiled" = some (some (.ref f13))) (l13 : K.lookup f13 = some ⟨oc13, od13, .func (PySem.W.fnOf "_law_spoiled" "_law_spoiled" (defArgs st__law_spoiled) (defBody st__law_spoiled) (defScope st__law_spoiled) .none kV13 dc13 pm13 an13 cd13 ct13), sl13⟩) (c13 : PySem.W.codeIn K cd13 "_law_spoiled" = true) (k13 : PySem.W.keepIn K (.ref f13) = true)
    (a14 : PySem.W.nsIn K mainGlobals "_law_border" = some (some (.ref f14))) (l14 : K.lookup f14 = some ⟨oc14, od14, .func (PySem.W.fnOf "_law_border" "_law_border" (defArgs st__law_border) (defBody st__law_border) (defScope st__law_border) .none kV14 dc14 pm14 an14 cd14 ct14), sl14⟩) (c14 : PySem.W.codeIn K cd14 "_law_border" = true) (k14 : PySem.W.keepIn K (.ref f14) = true)
    (a15 : PySem.W.nsIn K mainGlobals "_law_is_whole" = some (some (.ref f15))) (l15 : K.lookup f15 = some ⟨oc15, od15, .func (PySem.W.fnOf "_law_is_whole" "_law_is_whole" (defArgs st__law_is_whole) (defBody st__law_is_whole) (defScope st__law_is_whole) .none kV15 dc15 pm15 an15 cd15 ct15), sl15⟩) (c15 : PySem.W.codeIn K cd15 "_law_is_whole" = true) (k15 : PySem.W.keepIn K (.ref f15) = true)
    (a16 : PySem.W.nsIn K mainGlobals "_law_part" = some (some (.ref f16))) (l16 : K.lookup f16 = some ⟨oc16, od16, .func (PySem.W.fnOf "_law_part" "_law_part" (defArgs st__law_part) (defBody st__law_part) (defScope st__law_part) .none kV16 dc16 pm16 an16 cd16 ct16), sl16⟩) (c16 : PySem.W.codeIn K cd16 "_law_part" = true) (k16 : PySem.W.keepIn K (.ref f16) = true)
    (a17 : PySem.W.nsIn K mainGlobals "_law_word" = some (some (.ref f17))) (l17 : K.lookup f17 = some ⟨oc17, od17, .func (PySem.W.fnOf "_law_word" "_law_word" (defArgs st__law_word) (defBody st__law_word) (defScope st__law_word) .none kV17 dc17 pm17 an17 cd17 ct17), sl17⟩) (c17 : PySem.W.codeIn K cd17 "_law_word" = true) (k17 : PySem.W.keepIn K (.ref f17) = true)
    (a18 : PySem.W.nsIn K mainGlobals "_law_shut" = some (some (.ref f18))) (l18 : K.lookup f18 = some ⟨oc18, od18, .func (PySem.W.fnOf "_law_shut" "_law_shut" (defArgs st__law_shut) (defBody st__law_shut) (defScope st__law_shut) .none kV18 dc18 pm18 an18 cd18 ct18), sl18⟩) (c18 : PySem.W.codeIn K cd18 "_law_shut" = true) (k18 : PySem.W.keepIn K (.ref f18) = true)
    (a19 : PySem.W.nsIn K mainGlobals "_law_due" = some (some (.ref f19))) (l19 : K.lookup f19 = some ⟨oc19, od19, .func (PySem.W.fnOf "_law_due" "_law_due" (defArgs st__law_due) (defBody st__law_due) (defScope st__law_due) .none kV19 dc19 pm19 an19 cd19 ct19), sl19⟩) (c19 : PySem.W.codeIn K cd19 "_law_due" = true) (k19 : PySem.W.keepIn K (.ref f19) = true)
    (a20 : PySem.W.nsIn K mainGlobals "_law_others" = some (some (.ref f20))) (l20 : K.lookup f20 = some ⟨oc20, od20, .func (PySem.W.fnOf "_law_others" "_law_others" (defArgs st__law_others) (defBody st__law_others) (defScope st__law_others) .none kV20 dc20 pm20 an20 cd20 ct20), sl20⟩) (c20 : PySem.W.codeIn K cd20 "_law_others" = true) (k20 : PySem.W.keepIn K (.ref f20) = true)
    (a21 : PySem.W.nsIn K mainGlobals "_law_refused" = some (some (.ref f21))) (l21 : K.lookup f21 = some ⟨oc21, od21, .func (PySem.W.fnOf "_law_refused" "_law_refused" (defArgs st__law_refused) (defBody st__law_refused) (defScope st__law_refused) .none kV21 dc21 pm21 an21 cd21 ct21), sl21⟩) (c21 : PySem.W.codeIn K cd21 "_law_refused" = true) (k21 : PySem.W.keepIn K (.ref f21) = true)
    (a22 : PySem.W.nsIn K mainGlobals "law" = some (some (.ref f22))) (l22 : K.lookup f22 = some ⟨oc22, od22, .func (PySem.W.fnOf "law" "law" (defArgs st_law) (defBody st_law) (defScope st_law) .none kV22 dc22 pm22 an22 cd22 ct22), sl22⟩) (c22 : PySem.W.codeIn K cd22 "law" = true) (k22 : PySem.W.keepIn K (.ref f22) = true)
    (z0 : PySem.W.nsIn K mainGlobals "ValueError" = some none)
    (z1 : PySem.W.nsIn K mainGlobals "abs" = some none)
    (z2 : PySem.W.nsIn K mainGlobals "all" = some none)
    (z3 : PySem.W.nsIn K mainGlobals "any" = some none)
    (z4 : PySem.W.nsIn K mainGlobals "bool" = some none)
    (z5 : PySem.W.nsIn K mainGlobals "int" = some none)
    (z6 : PySem.W.nsIn K mainGlobals "isinstance" = some none)
    (z7 : PySem.W.nsIn K mainGlobals "len" = some none)
    (z8 : PySem.W.nsIn K mainGlobals "list" = some none)
    (z9 : PySem.W.nsIn K mainGlobals "str" = some none)
    (g0 : PySem.W.nsIn K mainGlobals "FIGURES" = some (some (.str "0123456789" t0)))
    (g1 : PySem.W.nsIn K mainGlobals "MOST_DEEP" = some (some (.int 10 t1)))
    (g2 : PySem.W.nsIn K mainGlobals "MOST_FIGURES_reading" = some (some (.int 20 t2)))
    (g3 : PySem.W.nsIn K mainGlobals "MOST_FIGURES_texts" = some (some (.int 31 t3)))
    (g4 : PySem.W.nsIn K mainGlobals "MOST_WEIGHT" = some (some (.int 50 t4)))
    (xa0 : PySem.W.nsIn K mainGlobals "NoFraction" = some (some (.ref C0))) (xe0 : PySem.W.excIn K C0 [.type "ValueError", .type "Exception", .type "BaseException", .type "object"] "ValueError.__new__" = true) (xk0 : PySem.W.keepIn K (.ref C0) = true) (xs0 : PySem.W.subIn K (.ref C0) (.type "BaseException") = some true) (xt0 : PySem.W.typeIn K (.ref C0) = some (.type "type"))
    (xa1 : PySem.W.nsIn K mainGlobals "NoText" = some (some (.ref C1))) (xe1 : PySem.W.excIn K C1 [.type "ValueError", .type "Exception", .type "BaseException", .type "object"] "ValueError.__new__" = true) (xk1 : PySem.W.keepIn K (.ref C1) = true) (xs1 : PySem.W.subIn K (.ref C1) (.type "BaseException") = some true) (xt1 : PySem.W.typeIn K (.ref C1) = some (.type "type"))
    (ua0 : PySem.W.nsIn K mainGlobals "LeftError" = some (some (.ref U0)))
    (ua1 : PySem.W.nsIn K mainGlobals "NoDepth" = some (some (.ref U1)))
    (ua2 : PySem.W.nsIn K mainGlobals "NoFigures" = some (some (.ref U2)))
    (ua3 : PySem.W.nsIn K mainGlobals "NoFraction" = some (some (.ref U3)))
    (ua4 : PySem.W.nsIn K mainGlobals "NoPlace" = some (some (.ref U4)))
    (ua5 : PySem.W.nsIn K mainGlobals "NoPolynomial" = some (some (.ref U5)))
    (ua6 : PySem.W.nsIn K mainGlobals "NoPower" = some (some (.ref U6)))
    (ua7 : PySem.W.nsIn K mainGlobals "NoPrime" = some (some (.ref U7)))
    (ua8 : PySem.W.nsIn K mainGlobals "NoQuotient" = some (some (.ref U8)))
    (ua9 : PySem.W.nsIn K mainGlobals "NoRoot" = some (some (.ref U9)))
    (ua10 : PySem.W.nsIn K mainGlobals "NoSize" = some (some (.ref U10)))
    (ua11 : PySem.W.nsIn K mainGlobals "NoText" = some (some (.ref U11)))
    (ua12 : PySem.W.nsIn K mainGlobals "NotNear" = some (some (.ref U12)))
    (ua13 : PySem.W.nsIn K mainGlobals "TooFew" = some (some (.ref U13)))
    (ua14 : PySem.W.nsIn K mainGlobals "Unlike" = some (some (.ref U14)))
    (lb : PySem.W.subIn K (.ref U0) (.type "BaseException") = some true) (ld : PySem.W.hasDictIn K U0 = true) (lt : PySem.W.typeIn K (.ref U0) = some (.type "type"))
    (q13 : PySem.W.findIn K (.ref U3) "__getattribute__" = some (some (.builtin "BaseException.__getattribute__"))) (q23 : PySem.W.findIn K (.ref U3) "__getattr__" = some none) (q33 : PySem.W.subIn K (.ref U3) (.type "BaseException") = some true) (q43 : PySem.W.hasDictIn K U3 = true) (q53 : PySem.W.findIn K (.ref U3) "__class__" = some (some (.builtin "object.__class__"))) (q83 : PySem.W.mroIn K U3 (.type "object") = some true) (q93 : PySem.W.subIn K (.ref U3) (.ref U0) = some true) (qv3 : PySem.W.kitOne K (.ref U3) (.type "ValueError") = some true)
    (k3_1 : PySem.W.kitOne K (.ref U3) (.ref U1) = some false)
    (k3_2 : PySem.W.kitOne K (.ref U3) (.ref U2) = some false)
    (k3_3 : PySem.W.kitOne K (.ref U3) (.ref U3) = some true)
    (k3_4 : PySem.W.kitOne K (.ref U3) (.ref U4) = some false)
    (k3_5 : PySem.W.kitOne K (.ref U3) (.ref U5) = some false)
    (k3_6 : PySem.W.kitOne K (.ref U3) (.ref U6) = some false)
    (k3_7 : PySem.W.kitOne K (.ref U3) (.ref U7) = some false)
    (k3_8 : PySem.W.kitOne K (.ref U3) (.ref U8) = some false)
    (k3_9 : PySem.W.kitOne K (.ref U3) (.ref U9) = some false)
    (k3_10 : PySem.W.kitOne K (.ref U3) (.ref U10) = some false)
    (k3_11 : PySem.W.kitOne K (.ref U3) (.ref U11) = some false)
    (k3_12 : PySem.W.kitOne K (.ref U3) (.ref U12) = some false)
    (k3_13 : PySem.W.kitOne K (.ref U3) (.ref U13) = some false)
    (k3_14 : PySem.W.kitOne K (.ref U3) (.ref U14) = some false)
    (q111 : PySem.W.findIn K (.ref U11) "__getattribute__" = some (some (.builtin "BaseException.__getattribute__"))) (q211 : PySem.W.findIn K (.ref U11) "__getattr__" = some none) (q311 : PySem.W.subIn K (.ref U11) (.type "BaseException") = some true) (q411 : PySem.W.hasDictIn K U11 = true) (q511 : PySem.W.findIn K (.ref U11) "__class__" = some (some (.builtin "object.__class__"))) (q811 : PySem.W.mroIn K U11 (.type "object") = some true) (q911 : PySem.W.subIn K (.ref U11) (.ref U0) = some true) (qv11 : PySem.W.kitOne K (.ref U11) (.type "ValueError") = some true)
    (k11_1 : PySem.W.kitOne K (.ref U11) (.ref U1) = some false)
    (k11_2 : PySem.W.kitOne K (.ref U11) (.ref U2) = some false)
    (k11_3 : PySem.W.kitOne K (.ref U11) (.ref U3) = some false)
    (k11_4 : PySem.W.kitOne K (.ref U11) (.ref U4) = some false)
    (k11_5 : PySem.W.kitOne K (.ref U11) (.ref U5) = some false)
    (k11_6 : PySem.W.kitOne K (.ref U11) (.ref U6) = some false)
    (k11_7 : PySem.W.kitOne K (.ref U11) (.ref U7) = some false)
    (k11_8 : PySem.W.kitOne K (.ref U11) (.ref U8) = some false)
    (k11_9 : PySem.W.kitOne K (.ref U11) (.ref U9) = some false)
    (k11_10 : PySem.W.kitOne K (.ref U11) (.ref U10) = some false)
    (k11_11 : PySem.W.kitOne K (.ref U11) (.ref U11) = some true)
    (k11_12 : PySem.W.kitOne K (.ref U11) (.ref U12) = some false)
    (k11_13 : PySem.W.kitOne K (.ref U11) (.ref U13) = some false)
    (k11_14 : PySem.W.kitOne K (.ref U11) (.ref U14) = some false)
    (q6 : PySem.W.specialIn K (.builtin "object.__class__") "__get__" = some (some (.builtin "getset_descriptor.__get__"))) (q7 : PySem.W.takesIn K (.builtin "object.__class__") = some true)
    (zq6 : PySem.W.specialIn K (.builtin "object.__class__") "__get__" = some (some (.builtin "getset_descriptor.__get__"))) (zq7 : PySem.W.takesIn K (.builtin "object.__class__") = some true)
    (ya0 : PySem.W.nsIn K mainGlobals "Part" = some (some (.ref Y0)))
    (ya1 : PySem.W.nsIn K mainGlobals "Sum" = some (some (.ref Y1)))
    (ya2 : PySem.W.nsIn K mainGlobals "Difference" = some (some (.ref Y2)))
    (ya3 : PySem.W.nsIn K mainGlobals "Product" = some (some (.ref Y3)))
    (ya4 : PySem.W.nsIn K mainGlobals "Quotient" = some (some (.ref Y4)))
    (ya5 : PySem.W.nsIn K mainGlobals "Power" = some (some (.ref Y5)))
    (yz : [Y0, Y1, Y2, Y3, Y4, Y5].Nodup)
    (yb0 : PySem.W.plainGet K Y0 Str.empty = true)
    (yc0 : PySem.W.hasDictIn K Y0 = true)
    (yd0 : PySem.W.plainOver K Y0 = true)
    (ye0 : PySem.W.findIn K (.ref Y0) "__setattr__" = some (some (.builtin "object.__setattr__")))
    (yf0 : PySem.W.findIn K (.ref Y0) "__class__" = some (some (.builtin "object.__class__")))
    (yg0 : PySem.W.mroIn K Y0 (.type "object") = some true)
    (yh0_0 : PySem.W.kitOne K (.ref Y0) (.type "int") = some false)
    (yh0_1 : PySem.W.kitOne K (.ref Y0) (.type "bool") = some false)
    (yh0_2 : PySem.W.kitOne K (.ref Y0) (.type "str") = some false)
    (yh0_3 : PySem.W.kitOne K (.ref Y0) (.type "tuple") = some false)
    (yh0_4 : PySem.W.kitOne K (.ref Y0) (.type "list") = some false)
    (yh0_5 : PySem.W.kitOne K (.ref Y0) (.type "dict") = some false)
    (yn0_0 : PySem.W.findIn K (.ref Y0) "part" = some none)
    (yn0_1 : PySem.W.findIn K (.ref Y0) "one" = some none)
    (yn0_2 : PySem.W.findIn K (.ref Y0) "other" = some none)
    (yn0_3 : PySem.W.findIn K (.ref Y0) "n" = some none)
    (yb1 : PySem.W.plainGet K Y1 Str.empty = true)
    (yc1 : PySem.W.hasDictIn K Y1 = true)
    (yd1 : PySem.W.plainOver K Y1 = true)
    (ye1 : PySem.W.findIn K (.ref Y1) "__setattr__" = some (some (.builtin "object.__setattr__")))
    (yf1 : PySem.W.findIn K (.ref Y1) "__class__" = some (some (.builtin "object.__class__")))
    (yg1 : PySem.W.mroIn K Y1 (.type "object") = some true)
    (yh1_0 : PySem.W.kitOne K (.ref Y1) (.type "int") = some false)
    (yh1_1 : PySem.W.kitOne K (.ref Y1) (.type "bool") = some false)
    (yh1_2 : PySem.W.kitOne K (.ref Y1) (.type "str") = some false)
    (yh1_3 : PySem.W.kitOne K (.ref Y1) (.type "tuple") = some false)
    (yh1_4 : PySem.W.kitOne K (.ref Y1) (.type "list") = some false)
    (yh1_5 : PySem.W.kitOne K (.ref Y1) (.type "dict") = some false)
    (yn1_0 : PySem.W.findIn K (.ref Y1) "part" = some none)
    (yn1_1 : PySem.W.findIn K (.ref Y1) "one" = some none)
    (yn1_2 : PySem.W.findIn K (.ref Y1) "other" = some none)
    (yn1_3 : PySem.W.findIn K (.ref Y1) "n" = some none)
    (yb2 : PySem.W.plainGet K Y2 Str.empty = true)
    (yc2 : PySem.W.hasDictIn K Y2 = true)
    (yd2 : PySem.W.plainOver K Y2 = true)
    (ye2 : PySem.W.findIn K (.ref Y2) "__setattr__" = some (some (.builtin "object.__setattr__")))
    (yf2 : PySem.W.findIn K (.ref Y2) "__class__" = some (some (.builtin "object.__class__")))
    (yg2 : PySem.W.mroIn K Y2 (.type "object") = some true)
    (yh2_0 : PySem.W.kitOne K (.ref Y2) (.type "int") = some false)
    (yh2_1 : PySem.W.kitOne K (.ref Y2) (.type "bool") = some false)
    (yh2_2 : PySem.W.kitOne K (.ref Y2) (.type "str") = some false)
    (yh2_3 : PySem.W.kitOne K (.ref Y2) (.type "tuple") = some false)
    (yh2_4 : PySem.W.kitOne K (.ref Y2) (.type "list") = some false)
    (yh2_5 : PySem.W.kitOne K (.ref Y2) (.type "dict") = some false)
    (yn2_0 : PySem.W.findIn K (.ref Y2) "part" = some none)
    (yn2_1 : PySem.W.findIn K (.ref Y2) "one" = some none)
    (yn2_2 : PySem.W.findIn K (.ref Y2) "other" = some none)
    (yn2_3 : PySem.W.findIn K (.ref Y2) "n" = some none)
    (yb3 : PySem.W.plainGet K Y3 Str.empty = true)
    (yc3 : PySem.W.hasDictIn K Y3 = true)
    (yd3 : PySem.W.plainOver K Y3 = true)
    (ye3 : PySem.W.findIn K (.ref Y3) "__setattr__" = some (some (.builtin "object.__setattr__")))
    (yf3 : PySem.W.findIn K (.ref Y3) "__class__" = some (some (.builtin "object.__class__")))
    (yg3 : PySem.W.mroIn K Y3 (.type "object") = some true)
    (yh3_0 : PySem.W.kitOne K (.ref Y3) (.type "int") = some false)
    (yh3_1 : PySem.W.kitOne K (.ref Y3) (.type "bool") = some false)
    (yh3_2 : PySem.W.kitOne K (.ref Y3) (.type "str") = some false)
    (yh3_3 : PySem.W.kitOne K (.ref Y3) (.type "tuple") = some false)
    (yh3_4 : PySem.W.kitOne K (.ref Y3) (.type "list") = some false)
    (yh3_5 : PySem.W.kitOne K (.ref Y3) (.type "dict") = some false)
    (yn3_0 : PySem.W.findIn K (.ref Y3) "part" = some none)
    (yn3_1 : PySem.W.findIn K (.ref Y3) "one" = some none)
    (yn3_2 : PySem.W.findIn K (.ref Y3) "other" = some none)
    (yn3_3 : PySem.W.findIn K (.ref Y3) "n" = some none)
    (yb4 : PySem.W.plainGet K Y4 Str.empty = true)
    (yc4 : PySem.W.hasDictIn K Y4 = true)
    (yd4 : PySem.W.plainOver K Y4 = true)
    (ye4 : PySem.W.findIn K (.ref Y4) "__setattr__" = some (some (.builtin "object.__setattr__")))
    (yf4 : PySem.W.findIn K (.ref Y4) "__class__" = some (some (.builtin "object.__class__")))
    (yg4 : PySem.W.mroIn K Y4 (.type "object") = some true)
    (yh4_0 : PySem.W.kitOne K (.ref Y4) (.type "int") = some false)
    (yh4_1 : PySem.W.kitOne K (.ref Y4) (.type "bool") = some false)
    (yh4_2 : PySem.W.kitOne K (.ref Y4) (.type "str") = some false)
    (yh4_3 : PySem.W.kitOne K (.ref Y4) (.type "tuple") = some false)
    (yh4_4 : PySem.W.kitOne K (.ref Y4) (.type "list") = some false)
    (yh4_5 : PySem.W.kitOne K (.ref Y4) (.type "dict") = some false)
    (yn4_0 : PySem.W.findIn K (.ref Y4) "part" = some none)
    (yn4_1 : PySem.W.findIn K (.ref Y4) "one" = some none)
    (yn4_2 : PySem.W.findIn K (.ref Y4) "other" = some none)
    (yn4_3 : PySem.W.findIn K (.ref Y4) "n" = some none)
    (yb5 : PySem.W.plainGet K Y5 Str.empty = true)
    (yc5 : PySem.W.hasDictIn K Y5 = true)
    (yd5 : PySem.W.plainOver K Y5 = true)
    (ye5 : PySem.W.findIn K (.ref Y5) "__setattr__" = some (some (.builtin "object.__setattr__")))
    (yf5 : PySem.W.findIn K (.ref Y5) "__class__" = some (some (.builtin "object.__class__")))
    (yg5 : PySem.W.mroIn K Y5 (.type "object") = some true)
    (yh5_0 : PySem.W.kitOne K (.ref Y5) (.type "int") = some false)
    (yh5_1 : PySem.W.kitOne K (.ref Y5) (.type "bool") = some false)
    (yh5_2 : PySem.W.kitOne K (.ref Y5) (.type "str") = some false)
    (yh5_3 : PySem.W.kitOne K (.ref Y5) (.type "tuple") = some false)
    (yh5_4 : PySem.W.kitOne K (.ref Y5) (.type "list") = some false)
    (yh5_5 : PySem.W.kitOne K (.ref Y5) (.type "dict") = some false)
    (yn5_0 : PySem.W.findIn K (.ref Y5) "part" = some none)
    (yn5_1 : PySem.W.findIn K (.ref Y5) "one" = some none)
    (yn5_2 : PySem.W.findIn K (.ref Y5) "other" = some none)
    (yn5_3 : PySem.W.findIn K (.ref Y5) "n" = some none)
    (ym2 : PySem.W.makesIn K Y2 = true) (yp2 : PySem.W.keepIn K (.ref Y2) = true)
    (ym0 : PySem.W.makesIn K Y0 = true) (yp0 : PySem.W.keepIn K (.ref Y0) = true)
    (ym5 : PySem.W.makesIn K Y5 = true) (yp5 : PySem.W.keepIn K (.ref Y5) = true)
    (ym3 : PySem.W.makesIn K Y3 = true) (yp3 : PySem.W.keepIn K (.ref Y3) = true)
    (ym4 : PySem.W.makesIn K Y4 = true) (yp4 : PySem.W.keepIn K (.ref Y4) = true)
    (ym1 : PySem.W.makesIn K Y1 = true) (yp1 : PySem.W.keepIn K (.ref Y1) = true)
    (mi2 : PySem.W.findIn K (.ref Y2) "__init__" = some (some (.ref fm10)))
    (mi0 : PySem.W.findIn K (.ref Y0) "__init__" = some (some (.ref fm11)))
    (mi5 : PySem.W.findIn K (.ref Y5) "__init__" = some (some (.ref fm12)))
    (mi3 : PySem.W.findIn K (.ref Y3) "__init__" = some (some (.ref fm10)))
    (mi4 : PySem.W.findIn K (.ref Y4) "__init__" = some (some (.ref fm10)))
    (mi1 : PySem.W.findIn K (.ref Y1) "__init__" = some (some (.ref fm10)))
    (mb0_weight : PySem.W.findIn K (.ref Y0) "weight" = some (some (.ref fm0)))
    (mb1_weight : PySem.W.findIn K (.ref Y1) "weight" = some (some (.ref fm1)))
    (mb2_weight : PySem.W.findIn K (.ref Y2) "weight" = some (some (.ref fm1)))
    (mb3_weight : PySem.W.findIn K (.ref Y3) "weight" = some (some (.ref fm1)))
    (mb4_weight : PySem.W.findIn K (.ref Y4) "weight" = some (some (.ref fm1)))
    (mb5_weight : PySem.W.findIn K (.ref Y5) "weight" = some (some (.ref fm2)))
    (mb0_shown : PySem.W.findIn K (.ref Y0) "shown" = some (some (.ref fm3)))
    (mb1_shown : PySem.W.findIn K (.ref Y1) "shown" = some (some (.ref fm8)))
    (mb2_shown : PySem.W.findIn K (.ref Y2) "shown" = some (some (.ref fm8)))
    (mb3_shown : PySem.W.findIn K (.ref Y3) "shown" = some (some (.ref fm8)))
    (mb4_shown : PySem.W.findIn K (.ref Y4) "shown" = some (some (.ref fm8)))
    (mb5_shown : PySem.W.findIn K (.ref Y5) "shown" = some (some (.ref fm9)))
    (mb1_sign : PySem.W.findIn K (.ref Y1) "sign" = some (some (.ref fm4)))
    (mb2_sign : PySem.W.findIn K (.ref Y2) "sign" = some (some (.ref fm5)))
    (mb3_sign : PySem.W.findIn K (.ref Y3) "sign" = some (some (.ref fm6)))
    (mb4_sign : PySem.W.findIn K (.ref Y4) "sign" = some (some (.ref fm7)))
    (ml0 : K.lookup fm0 = some ⟨ocm0, odm0, .func (PySem.W.fnOf "weight" "Term.weight" (defArgs st_Term_weight) (defBody st_Term_weight) (defScope st_Term_weight) .none kVm0 dcm0 pmm0 anm0 cdm0 ctm0), slm0⟩) (mc0 : PySem.W.codeIn K cdm0 "Term.weight" = true) (mk0 : PySem.W.keepIn K (.ref fm0) = true) (mf0 : PySem.W.isFn K (.ref fm0) = true)
    (ml1 : K.lookup fm1 = some ⟨ocm1, odm1, .func (PySem.W.fnOf "weight" "Pair.weight" (defArgs st_Pair_weight) (defBody st_Pair_weight) (defScope st_Pair_weight) .none kVm1 dcm1 pmm1 anm1 cdm1 ctm1), slm1⟩) (mc1 : PySem.W.codeIn K cdm1 "Pair.weight" = true) (mk1 : PySem.W.keepIn K (.ref fm1) = true) (mf1 : PySem.W.isFn K (.ref fm1) = true)
    (ml2 : K.lookup fm2 = some ⟨ocm2, odm2, .func (PySem.W.fnOf "weight" "Power.weight" (defArgs st_Power_weight) (defBody st_Power_weight) (defScope st_Power_weight) .none kVm2 dcm2 pmm2 anm2 cdm2 ctm2), slm2⟩) (mc2 : PySem.W.codeIn K cdm2 "Power.weight" = true) (mk2 : PySem.W.keepIn K (.ref fm2) = true) (mf2 : PySem.W.isFn K (.ref fm2) = true)
    (ml3 : K.lookup fm3 = some ⟨ocm3, odm3, .func (PySem.W.fnOf "shown" "Part.shown" (defArgs st_Part_shown) (defBody st_Part_shown) (defScope st_Part_shown) .none kVm3 dcm3 pmm3 anm3 cdm3 ctm3), slm3⟩) (mc3 : PySem.W.codeIn K cdm3 "Part.shown" = true) (mk3 : PySem.W.keepIn K (.ref fm3) = true) (mf3 : PySem.W.isFn K (.ref fm3) = true)
    (ml4 : K.lookup fm4 = some ⟨ocm4, odm4, .func (PySem.W.fnOf "sign" "Sum.sign" (defArgs st_Sum_sign) (defBody st_Sum_sign) (defScope st_Sum_sign) .none kVm4 dcm4 pmm4 anm4 cdm4 ctm4), slm4⟩) (mc4 : PySem.W.codeIn K cdm4 "Sum.sign" = true) (mk4 : PySem.W.keepIn K (.ref fm4) = true) (mf4 : PySem.W.isFn K (.ref fm4) = true)
    (ml5 : K.lookup fm5 = some ⟨ocm5, odm5, .func (PySem.W.fnOf "sign" "Difference.sign" (defArgs st_Difference_sign) (defBody st_Difference_sign) (defScope st_Difference_sign) .none kVm5 dcm5 pmm5 anm5 cdm5 ctm5), slm5⟩) (mc5 : PySem.W.codeIn K cdm5 "Difference.sign" = true) (mk5 : PySem.W.keepIn K (.ref fm5) = true) (mf5 : PySem.W.isFn K (.ref fm5) = true)
    (ml6 : K.lookup fm6 = some ⟨ocm6, odm6, .func (PySem.W.fnOf "sign" "Product.sign" (defArgs st_Product_sign) (defBody st_Product_sign) (defScope st_Product_sign) .none kVm6 dcm6 pmm6 anm6 cdm6 ctm6), slm6⟩) (mc6 : PySem.W.codeIn K cdm6 "Product.sign" = true) (mk6 : PySem.W.keepIn K (.ref fm6) = true) (mf6 : PySem.W.isFn K (.ref fm6) = true)
    (ml7 : K.lookup fm7 = some ⟨ocm7, odm7, .func (PySem.W.fnOf "sign" "Quotient.sign" (defArgs st_Quotient_sign) (defBody st_Quotient_sign) (defScope st_Quotient_sign) .none kVm7 dcm7 pmm7 anm7 cdm7 ctm7), slm7⟩) (mc7 : PySem.W.codeIn K cdm7 "Quotient.sign" = true) (mk7 : PySem.W.keepIn K (.ref fm7) = true) (mf7 : PySem.W.isFn K (.ref fm7) = true)
    (ml8 : K.lookup fm8 = some ⟨ocm8, odm8, .func (PySem.W.fnOf "shown" "Pair.shown" (defArgs st_Pair_shown) (defBody st_Pair_shown) (defScope st_Pair_shown) .none kVm8 dcm8 pmm8 anm8 cdm8 ctm8), slm8⟩) (mc8 : PySem.W.codeIn K cdm8 "Pair.shown" = true) (mk8 : PySem.W.keepIn K (.ref fm8) = true) (mf8 : PySem.W.isFn K (.ref fm8) = true)
    (ml9 : K.lookup fm9 = some ⟨ocm9, odm9, .func (PySem.W.fnOf "shown" "Power.shown" (defArgs st_Power_shown) (defBody st_Power_shown) (defScope st_Power_shown) .none kVm9 dcm9 pmm9 anm9 cdm9 ctm9), slm9⟩) (mc9 : PySem.W.codeIn K cdm9 "Power.shown" = true) (mk9 : PySem.W.keepIn K (.ref fm9) = true) (mf9 : PySem.W.isFn K (.ref fm9) = true)
    (ml10 : K.lookup fm10 = some ⟨ocm10, odm10, .func (PySem.W.fnOf "__init__" "Pair.__init__" (defArgs st_Pair___init__) (defBody st_Pair___init__) (defScope st_Pair___init__) .none kVm10 dcm10 pmm10 anm10 cdm10 ctm10), slm10⟩) (mc10 : PySem.W.codeIn K cdm10 "Pair.__init__" = true) (mk10 : PySem.W.keepIn K (.ref fm10) = true) (mf10 : PySem.W.isFn K (.ref fm10) = true)
    (ml11 : K.lookup fm11 = some ⟨ocm11, odm11, .func (PySem.W.fnOf "__init__" "Part.__init__" (defArgs st_Part___init__) (defBody st_Part___init__) (defScope st_Part___init__) .none kVm11 dcm11 pmm11 anm11 cdm11 ctm11), slm11⟩) (mc11 : PySem.W.codeIn K cdm11 "Part.__init__" = true) (mk11 : PySem.W.keepIn K (.ref fm11) = true) (mf11 : PySem.W.isFn K (.ref fm11) = true)
    (ml12 : K.lookup fm12 = some ⟨ocm12, odm12, .func (PySem.W.fnOf "__init__" "Power.__init__" (defArgs st_Power___init__) (defBody st_Power___init__) (defScope st_Power___init__) .none kVm12 dcm12 pmm12 anm12 cdm12 ctm12), slm12⟩) (mc12 : PySem.W.codeIn K cdm12 "Power.__init__" = true) (mk12 : PySem.W.keepIn K (.ref fm12) = true) (mf12 : PySem.W.isFn K (.ref fm12) = true)
    : ∃ fd : FuncData, (∀ (s : Shared) (v : Value), BindsTo s fd ⟨[v], []⟩ [("_law_script", v)]) ∧ ∀ base : Heap, K.In base → base.Ns mainGlobals mg → FnOk l.prog w K mg base (L2N.CX l.prog w) 32 fa fd ["_law_script"] (spLaw K) := by
  have e := hfa.symm.trans (PySem.W.mg_of X G a22)
  cases e
  have B : Tx K mg := ⟨defE_mk X G a0 l0 c0 k0 fun _ _ _ _ _ _ us hl => match us, hl with | [_], _ => rfl,
    defE_mk X G a1 l1 c1 k1 fun _ _ _ _ _ _ us hl => match us, hl with | [_, _], _ => rfl,
    defED_mk X G a2 l2 c2 k2 lt2 (fun _ _ _ _ _ _ _ us its hl h2 => match us, its, hl, h2 with | [_, _], [_], _, _ => ⟨_, rfl, rfl⟩) (fun _ _ _ _ _ _ _ us its hl h2 => match us, its, hl, h2 with | [_], [_], _, _ => ⟨_, rfl, rfl⟩),
    defE_mk X G a3 l3 c3 k3 fun _ _ _ _ _ _ us hl => match us, hl with | [_], _ => rfl,
    defE_mk X G a4 l4 c4 k4 fun _ _ _ _ _ _ us hl => match us, hl with | [_], _ => rfl,
    defE_mk X G a5 l5 c5 k5 fun _ _ _ _ _ _ us hl => match us, hl with | [_], _ => rfl,
    defE_mk X G a6 l6 c6 k6 fun _ _ _ _ _ _ us hl => match us, hl with | [_, _], _ => rfl,
    defE_mk X G a7 l7 c7 k7 fun _ _ _ _ _ _ us hl => match us, hl with | [_, _, _], _ => rfl,
    defE_mk X G a8 l8 c8 k8 fun _ _ _ _ _ _ us hl => match us, hl with | [_, _, _], _ => rfl,
    defE_mk X G a9 l9 c9 k9 fun _ _ _ _ _ _ us hl => match us, hl with | [_, _, _], _ => rfl,
    defE_mk X G a10 l10 c10 k10 fun _ _ _ _ _ _ us hl => match us, hl with | [_], _ => rfl,
    defE_mk X G a11 l11 c11 k11 fun _ _ _ _ _ _ us hl => match us, hl with | [_, _], _ => rfl,
    defE_mk X G a12 l12 c12 k12 fun _ _ _ _ _ _ us hl => match us, hl with | [_], _ => rfl,
    defE_mk X G a13 l13 c13 k13 fun _ _ _ _ _ _ us hl => match us, hl with | [_, _, _], _ => rfl,
    defE_mk X G a14 l14 c14 k14 fun _ _ _ _ _ _ us hl => match us, hl with | [_], _ => rfl,
    defE_mk X G a15 l15 c15 k15 fun _ _ _ _ _ _ us hl => match us, hl with | [_], _ => rfl,
    defE_mk X G a16 l16 c16 k16 fun _ _ _ _ _ _ us hl => match us, hl with | [_], _ => rfl,
    defE_mk X G a17 l17 c17 k17 fun _ _ _ _ _ _ us hl => match us, hl with | [_], _ => rfl,
    defE_mk X G a18 l18 c18 k18 fun _ _ _ _ _ _ us hl => match us, hl with | [_], _ => rfl,
    defE_mk X G a19 l19 c19 k19 fun _ _ _ _ _ _ us hl => match us, hl with | [_], _ => rfl,
    defE_mk X G a20 l20 c20 k20 fun _ _ _ _ _ _ us hl => match us, hl with | [_], _ => rfl,
    defE_mk X G a21 l21 c21 k21 fun _ _ _ _ _ _ us hl => match us, hl with | [_], _ => rfl,
    PySem.W.mg_none_of X G z0,
    PySem.W.mg_none_of X G z1,
    PySem.W.mg_none_of X G z2,
    PySem.W.mg_none_of X G z3,
    PySem.W.mg_none_of X G z4,
    PySem.W.mg_none_of X G z5,
    PySem.W.mg_none_of X G z6,
    PySem.W.mg_none_of X G z7,
    PySem.W.mg_none_of X G z8,
    PySem.W.mg_none_of X G z9,
    glS_mk X G g0,
    glI_mk X G g1,
    glI_mk X G g2,
    glI_mk X G g3,
    glI_mk X G g4,
    excE_mk X G xa0 xe0 xk0 xs0 xt0,
    excE_mk X G xa1 xe1 xk1 xs1 xt1,
    ⟨U0, PySem.W.mg_of X G ua0⟩,
    ⟨U1, PySem.W.mg_of X G ua1⟩,
    ⟨U2, PySem.W.mg_of X G ua2⟩,
    ⟨U3, PySem.W.mg_of X G ua3⟩,
    ⟨U4, PySem.W.mg_of X G ua4⟩,
    ⟨U5, PySem.W.mg_of X G ua5⟩,
    ⟨U6, PySem.W.mg_of X G ua6⟩,
    ⟨U7, PySem.W.mg_of X G ua7⟩,
    ⟨U8, PySem.W.mg_of X G ua8⟩,
    ⟨U9, PySem.W.mg_of X G ua9⟩,
    ⟨U10, PySem.W.mg_of X G ua10⟩,
    ⟨U11, PySem.W.mg_of X G ua11⟩,
    ⟨U12, PySem.W.mg_of X G ua12⟩,
    ⟨U13, PySem.W.mg_of X G ua13⟩,
    ⟨U14, PySem.W.mg_of X G ua14⟩,
    (fa_cons (fa_cons (kq_mk X G ua3 ua1 k3_1 (by decide)) (fa_cons (kq_mk X G ua3 ua2 k3_2 (by decide)) (fa_cons (kq_mk X G ua3 ua3 k3_3 (by decide)) (fa_cons (kq_mk X G ua3 ua4 k3_4 (by decide)) (fa_cons (kq_mk X G ua3 ua5 k3_5 (by decide)) (fa_cons (kq_mk X G ua3 ua6 k3_6 (by decide)) (fa_cons (kq_mk X G ua3 ua7 k3_7 (by decide)) (fa_cons (kq_mk X G ua3 ua8 k3_8 (by decide)) (fa_cons (kq_mk X G ua3 ua9 k3_9 (by decide)) (fa_cons (kq_mk X G ua3 ua10 k3_10 (by decide)) (fa_cons (kq_mk X G ua3 ua11 k3_11 (by decide)) (fa_cons (kq_mk X G ua3 ua12 k3_12 (by decide)) (fa_cons (kq_mk X G ua3 ua13 k3_13 (by decide)) (fa_cons (kq_mk X G ua3 ua14 k3_14 (by decide)) fa_nil)))))))))))))) (fa_cons (fa_cons (kq_mk X G ua11 ua1 k11_1 (by decide)) (fa_cons (kq_mk X G ua11 ua2 k11_2 (by decide)) (fa_cons (kq_mk X G ua11 ua3 k11_3 (by decide)) (fa_cons (kq_mk X G ua11 ua4 k11_4 (by decide)) (fa_cons (kq_mk X G ua11 ua5 k11_5 (by decide)) (fa_cons (kq_mk X G ua11 ua6 k11_6 (by decide)) (fa_cons (kq_mk X G ua11 ua7 k11_7 (by decide)) (fa_cons (kq_mk X G ua11 ua8 k11_8 (by decide)) (fa_cons (kq_mk X G ua11 ua9 k11_9 (by decide)) (fa_cons (kq_mk X G ua11 ua10 k11_10 (by decide)) (fa_cons (kq_mk X G ua11 ua11 k11_11 (by decide)) (fa_cons (kq_mk X G ua11 ua12 k11_12 (by decide)) (fa_cons (kq_mk X G ua11 ua13 k11_13 (by decide)) (fa_cons (kq_mk X G ua11 ua14 k11_14 (by decide)) fa_nil)))))))))))))) fa_nil)),
    (fa_cons (kv_mk X G ua3 qv3) (fa_cons (kv_mk X G ua11 qv11) fa_nil)),
    (fa_cons (ke_mk X G ua3 ua0 lb ld lt q93 ⟨q13, q23, q33, q43, q53, q6, q7, q83⟩) (fa_cons (ke_mk X G ua11 ua0 lb ld lt q911 ⟨q111, q211, q311, q411, q511, q6, q7, q811⟩) fa_nil)),
    (by unfold cs6; rw [addrOf_eq (PySem.W.mg_of X G ya0), addrOf_eq (PySem.W.mg_of X G ya1), addrOf_eq (PySem.W.mg_of X G ya2), addrOf_eq (PySem.W.mg_of X G ya3), addrOf_eq (PySem.W.mg_of X G ya4), addrOf_eq (PySem.W.mg_of X G ya5)]; exact yz),
    clsE_mk X G ya0 ⟨⟨yb0, yc0, yd0, ye0⟩, yf0, zq6, zq7, yg0, (fa_cons yh0_0 (fa_cons yh0_1 (fa_cons yh0_2 (fa_cons yh0_3 (fa_cons yh0_4 (fa_cons yh0_5 fa_nil)))))), (fa_cons yn0_0 (fa_cons yn0_1 (fa_cons yn0_2 (fa_cons yn0_3 fa_nil))))⟩,
    clsE_mk X G ya1 ⟨⟨yb1, yc1, yd1, ye1⟩, yf1, zq6, zq7, yg1, (fa_cons yh1_0 (fa_cons yh1_1 (fa_cons yh1_2 (fa_cons yh1_3 (fa_cons yh1_4 (fa_cons yh1_5 fa_nil)))))), (fa_cons yn1_0 (fa_cons yn1_1 (fa_cons yn1_2 (fa_cons yn1_3 fa_nil))))⟩,
    clsE_mk X G ya2 ⟨⟨yb2, yc2, yd2, ye2⟩, yf2, zq6, zq7, yg2, (fa_cons yh2_0 (fa_cons yh2_1 (fa_cons yh2_2 (fa_cons yh2_3 (fa_cons yh2_4 (fa_cons yh2_5 fa_nil)))))), (fa_cons yn2_0 (fa_cons yn2_1 (fa_cons yn2_2 (fa_cons yn2_3 fa_nil))))⟩,
    clsE_mk X G ya3 ⟨⟨yb3, yc3, yd3, ye3⟩, yf3, zq6, zq7, yg3, (fa_cons yh3_0 (fa_cons yh3_1 (fa_cons yh3_2 (fa_cons yh3_3 (fa_cons yh3_4 (fa_cons yh3_5 fa_nil)))))), (fa_cons yn3_0 (fa_cons yn3_1 (fa_cons yn3_2 (fa_cons yn3_3 fa_nil))))⟩,
    clsE_mk X G ya4 ⟨⟨yb4, yc4, yd4, ye4⟩, yf4, zq6, zq7, yg4, (fa_cons yh4_0 (fa_cons yh4_1 (fa_cons yh4_2 (fa_cons yh4_3 (fa_cons yh4_4 (fa_cons yh4_5 fa_nil)))))), (fa_cons yn4_0 (fa_cons yn4_1 (fa_cons yn4_2 (fa_cons yn4_3 fa_nil))))⟩,
    clsE_mk X G ya5 ⟨⟨yb5, yc5, yd5, ye5⟩, yf5, zq6, zq7, yg5, (fa_cons yh5_0 (fa_cons yh5_1 (fa_cons yh5_2 (fa_cons yh5_3 (fa_cons yh5_4 (fa_cons yh5_5 fa_nil)))))), (fa_cons yn5_0 (fa_cons yn5_1 (fa_cons yn5_2 (fa_cons yn5_3 fa_nil))))⟩,
    makeE_mk X G ya2 ym2 yp2 mi2 mf10 ml10 mc10 mk10 (fun _ _ _ _ _ _ us hl => match us, hl with | [_, _, _], _ => rfl),
    makeE_mk X G ya0 ym0 yp0 mi0 mf11 ml11 mc11 mk11 (fun _ _ _ _ _ _ us hl => match us, hl with | [_, _], _ => rfl),
    makeE_mk X G ya5 ym5 yp5 mi5 mf12 ml12 mc12 mk12 (fun _ _ _ _ _ _ us hl => match us, hl with | [_, _, _], _ => rfl),
    makeE_mk X G ya3 ym3 yp3 mi3 mf10 ml10 mc10 mk10 (fun _ _ _ _ _ _ us hl => match us, hl with | [_, _, _], _ => rfl),
    makeE_mk X G ya4 ym4 yp4 mi4 mf10 ml10 mc10 mk10 (fun _ _ _ _ _ _ us hl => match us, hl with | [_, _, _], _ => rfl),
    makeE_mk X G ya1 ym1 yp1 mi1 mf10 ml10 mc10 mk10 (fun _ _ _ _ _ _ us hl => match us, hl with | [_, _, _], _ => rfl),
    methE_mk X G ya0 mb0_weight mf0 ml0 mc0 mk0 (fun _ _ _ _ _ _ us hl => match us, hl with | [_], _ => rfl),
    methE_mk X G ya1 mb1_weight mf1 ml1 mc1 mk1 (fun _ _ _ _ _ _ us hl => match us, hl with | [_], _ => rfl),
    methE_mk X G ya2 mb2_weight mf1 ml1 mc1 mk1 (fun _ _ _ _ _ _ us hl => match us, hl with | [_], _ => rfl),
    methE_mk X G ya3 mb3_weight mf1 ml1 mc1 mk1 (fun _ _ _ _ _ _ us hl => match us, hl with | [_], _ => rfl),
    methE_mk X G ya4 mb4_weight mf1 ml1 mc1 mk1 (fun _ _ _ _ _ _ us hl => match us, hl with | [_], _ => rfl),
    methE_mk X G ya5 mb5_weight mf2 ml2 mc2 mk2 (fun _ _ _ _ _ _ us hl => match us, hl with | [_], _ => rfl),
    methE_mk X G ya0 mb0_shown mf3 ml3 mc3 mk3 (fun _ _ _ _ _ _ us hl => match us, hl with | [_], _ => rfl),
    methE_mk X G ya1 mb1_shown mf8 ml8 mc8 mk8 (fun _ _ _ _ _ _ us hl => match us, hl with | [_], _ => rfl),
    methE_mk X G ya2 mb2_shown mf8 ml8 mc8 mk8 (fun _ _ _ _ _ _ us hl => match us, hl with | [_], _ => rfl),
    methE_mk X G ya3 mb3_shown mf8 ml8 mc8 mk8 (fun _ _ _ _ _ _ us hl => match us, hl with | [_], _ => rfl),
    methE_mk X G ya4 mb4_shown mf8 ml8 mc8 mk8 (fun _ _ _ _ _ _ us hl => match us, hl with | [_], _ => rfl),
    methE_mk X G ya5 mb5_shown mf9 ml9 mc9 mk9 (fun _ _ _ _ _ _ us hl => match us, hl with | [_], _ => rfl),
    methE_mk X G ya1 mb1_sign mf4 ml4 mc4 mk4 (fun _ _ _ _ _ _ us hl => match us, hl with | [_], _ => rfl),
    methE_mk X G ya2 mb2_sign mf5 ml5 mc5 mk5 (fun _ _ _ _ _ _ us hl => match us, hl with | [_], _ => rfl),
    methE_mk X G ya3 mb3_sign mf6 ml6 mc6 mk6 (fun _ _ _ _ _ _ us hl => match us, hl with | [_], _ => rfl),
    methE_mk X G ya4 mb4_sign mf7 ml7 mc7 mk7 (fun _ _ _ _ _ _ us hl => match us, hl with | [_], _ => rfl)⟩
  exact ⟨_, fun s v => .of_eq rfl, fun base _ _ => law_impB (law_true (addrOf mg) B.ms) (fn_mk (fun_mk (st := st_law) l22 c22 k22) sc_law rfl (fun z => nomatch z) fun cdv A outer s H E hr => bd_law B hr)⟩
def ts0 (K : PySem.W.Frag) : List Bool := [decide (PySem.W.nsIn K mainGlobals "is_whole" = some (some (.ref (He.ga K "is_whole")))),
  decide (PySem.W.nsIn K mainGlobals "divisor" = some (some (.ref (He.ga K "divisor")))),
  decide (PySem.W.nsIn K mainGlobals "fraction" = some (some (.ref (He.ga K "fraction")))),
  decide (PySem.W.nsIn K mainGlobals "number_of" = some (some (.ref (He.ga K "number_of")))),
  decide (PySem.W.nsIn K mainGlobals "whole_of" = some (some (.ref (He.ga K "whole_of")))),
  decide (PySem.W.nsIn K mainGlobals "part_of" = some (some (.ref (He.ga K "part_of")))),
  decide (PySem.W.nsIn K mainGlobals "word_at" = some (some (.ref (He.ga K "word_at")))),
  decide (PySem.W.nsIn K mainGlobals "of_two" = some (some (.ref (He.ga K "of_two")))),
  decide (PySem.W.nsIn K mainGlobals "read_deed" = some (some (.ref (He.ga K "read_deed")))),
  decide (PySem.W.nsIn K mainGlobals "read_at" = some (some (.ref (He.ga K "read_at")))),
  decide (PySem.W.nsIn K mainGlobals "read_term" = some (some (.ref (He.ga K "read_term")))),
  decide (PySem.W.nsIn K mainGlobals "_law_cell_at" = some (some (.ref (He.ga K "_law_cell_at")))),
  decide (PySem.W.nsIn K mainGlobals "_law_text" = some (some (.ref (He.ga K "_law_text")))),
  decide (PySem.W.nsIn K mainGlobals "_law_spoiled" = some (some (.ref (He.ga K "_law_spoiled")))),
  decide (PySem.W.nsIn K mainGlobals "_law_border" = some (some (.ref (He.ga K "_law_border")))),
  decide (PySem.W.nsIn K mainGlobals "_law_is_whole" = some (some (.ref (He.ga K "_law_is_whole")))),
  decide (PySem.W.nsIn K mainGlobals "_law_part" = some (some (.ref (He.ga K "_law_part")))),
  decide (PySem.W.nsIn K mainGlobals "_law_word" = some (some (.ref (He.ga K "_law_word")))),
  decide (PySem.W.nsIn K mainGlobals "_law_shut" = some (some (.ref (He.ga K "_law_shut")))),
  decide (PySem.W.nsIn K mainGlobals "_law_due" = some (some (.ref (He.ga K "_law_due")))),
  decide (PySem.W.nsIn K mainGlobals "_law_others" = some (some (.ref (He.ga K "_law_others")))),
  decide (PySem.W.nsIn K mainGlobals "_law_refused" = some (some (.ref (He.ga K "_law_refused")))),
  decide (PySem.W.nsIn K mainGlobals "law" = some (some (.ref (He.ga K "law")))),
  decide (PySem.W.nsIn K mainGlobals "ValueError" = some none),
  decide (PySem.W.nsIn K mainGlobals "abs" = some none)]
def ts1 (K : PySem.W.Frag) : List Bool := [decide (PySem.W.nsIn K mainGlobals "all" = some none),
  decide (PySem.W.nsIn K mainGlobals "any" = some none),
  decide (PySem.W.nsIn K mainGlobals "bool" = some none),
  decide (PySem.W.nsIn K mainGlobals "int" = some none),
  decide (PySem.W.nsIn K mainGlobals "isinstance" = some none),
  decide (PySem.W.nsIn K mainGlobals "len" = some none),
  decide (PySem.W.nsIn K mainGlobals "list" = some none),
  decide (PySem.W.nsIn K mainGlobals "str" = some none),
  PH.strB K "FIGURES" "0123456789",
  PH.intB K "MOST_DEEP" 10,
  PH.intB K "MOST_FIGURES_reading" 20,
  PH.intB K "MOST_FIGURES_texts" 31,
  PH.intB K "MOST_WEIGHT" 50,
  decide (PySem.W.nsIn K mainGlobals "NoFraction" = some (some (.ref (He.ga K "NoFraction")))),
  decide (PySem.W.excIn K (He.ga K "NoFraction") [.type "ValueError", .type "Exception", .type "BaseException", .type "object"] "ValueError.__new__" = true),
  decide (PySem.W.keepIn K (.ref (He.ga K "NoFraction")) = true),
  decide (PySem.W.subIn K (.ref (He.ga K "NoFraction")) (.type "BaseException") = some true),
  decide (PySem.W.typeIn K (.ref (He.ga K "NoFraction")) = some (.type "type")),
  decide (PySem.W.nsIn K mainGlobals "NoText" = some (some (.ref (He.ga K "NoText")))),
  decide (PySem.W.excIn K (He.ga K "NoText") [.type "ValueError", .type "Exception", .type "BaseException", .type "object"] "ValueError.__new__" = true),
  decide (PySem.W.keepIn K (.ref (He.ga K "NoText")) = true),
  decide (PySem.W.subIn K (.ref (He.ga K "NoText")) (.type "BaseException") = some true),
  decide (PySem.W.typeIn K (.ref (He.ga K "NoText")) = some (.type "type")),
  decide (PySem.W.nsIn K mainGlobals "LeftError" = some (some (.ref (He.ga K "LeftError")))),
  decide (PySem.W.nsIn K mainGlobals "NoDepth" = some (some (.ref (He.ga K "NoDepth"))))]
def ts2 (K : PySem.W.Frag) : List Bool := [decide (PySem.W.nsIn K mainGlobals "NoFigures" = some (some (.ref (He.ga K "NoFigures")))),
  decide (PySem.W.nsIn K mainGlobals "NoFraction" = some (some (.ref (He.ga K "NoFraction")))),
  decide (PySem.W.nsIn K mainGlobals "NoPlace" = some (some (.ref (He.ga K "NoPlace")))),
  decide (PySem.W.nsIn K mainGlobals "NoPolynomial" = some (some (.ref (He.ga K "NoPolynomial")))),
  decide (PySem.W.nsIn K mainGlobals "NoPower" = some (some (.ref (He.ga K "NoPower")))),
  decide (PySem.W.nsIn K mainGlobals "NoPrime" = some (some (.ref (He.ga K "NoPrime")))),
  decide (PySem.W.nsIn K mainGlobals "NoQuotient" = some (some (.ref (He.ga K "NoQuotient")))),
  decide (PySem.W.nsIn K mainGlobals "NoRoot" = some (some (.ref (He.ga K "NoRoot")))),
  decide (PySem.W.nsIn K mainGlobals "NoSize" = some (some (.ref (He.ga K "NoSize")))),
  decide (PySem.W.nsIn K mainGlobals "NoText" = some (some (.ref (He.ga K "NoText")))),
  decide (PySem.W.nsIn K mainGlobals "NotNear" = some (some (.ref (He.ga K "NotNear")))),
  decide (PySem.W.nsIn K mainGlobals "TooFew" = some (some (.ref (He.ga K "TooFew")))),
  decide (PySem.W.nsIn K mainGlobals "Unlike" = some (some (.ref (He.ga K "Unlike")))),
  decide (PySem.W.subIn K (.ref (He.ga K "LeftError")) (.type "BaseException") = some true),
  decide (PySem.W.hasDictIn K (He.ga K "LeftError") = true),
  decide (PySem.W.typeIn K (.ref (He.ga K "LeftError")) = some (.type "type")),
  decide (PySem.W.findIn K (.ref (He.ga K "NoFraction")) "__getattribute__" = some (some (.builtin "BaseException.__getattribute__"))),
  decide (PySem.W.findIn K (.ref (He.ga K "NoFraction")) "__getattr__" = some none),
  decide (PySem.W.subIn K (.ref (He.ga K "NoFraction")) (.type "BaseException") = some true),
  decide (PySem.W.hasDictIn K (He.ga K "NoFraction") = true),
  decide (PySem.W.findIn K (.ref (He.ga K "NoFraction")) "__class__" = some (some (.builtin "object.__class__"))),
  decide (PySem.W.mroIn K (He.ga K "NoFraction") (.type "object") = some true),
  decide (PySem.W.subIn K (.ref (He.ga K "NoFraction")) (.ref (He.ga K "LeftError")) = some true),
  decide (PySem.W.kitOne K (.ref (He.ga K "NoFraction")) (.type "ValueError") = some true),
  decide (PySem.W.kitOne K (.ref (He.ga K "NoFraction")) (.ref (He.ga K "NoDepth")) = some false)]
def ts3 (K : PySem.W.Frag) : List Bool := [decide (PySem.W.kitOne K (.ref (He.ga K "NoFraction")) (.ref (He.ga K "NoFigures")) = some false),
  decide (PySem.W.kitOne K (.ref (He.ga K "NoFraction")) (.ref (He.ga K "NoFraction")) = some true),
  decide (PySem.W.kitOne K (.ref (He.ga K "NoFraction")) (.ref (He.ga K "NoPlace")) = some false),
  decide (PySem.W.kitOne K (.ref (He.ga K "NoFraction")) (.ref (He.ga K "NoPolynomial")) = some false),
  decide (PySem.W.kitOne K (.ref (He.ga K "NoFraction")) (.ref (He.ga K "NoPower")) = some false),
  decide (PySem.W.kitOne K (.ref (He.ga K "NoFraction")) (.ref (He.ga K "NoPrime")) = some false),
  decide (PySem.W.kitOne K (.ref (He.ga K "NoFraction")) (.ref (He.ga K "NoQuotient")) = some false),
  decide (PySem.W.kitOne K (.ref (He.ga K "NoFraction")) (.ref (He.ga K "NoRoot")) = some false),
  decide (PySem.W.kitOne K (.ref (He.ga K "NoFraction")) (.ref (He.ga K "NoSize")) = some false),
  decide (PySem.W.kitOne K (.ref (He.ga K "NoFraction")) (.ref (He.ga K "NoText")) = some false),
  decide (PySem.W.kitOne K (.ref (He.ga K "NoFraction")) (.ref (He.ga K "NotNear")) = some false),
  decide (PySem.W.kitOne K (.ref (He.ga K "NoFraction")) (.ref (He.ga K "TooFew")) = some false),
  decide (PySem.W.kitOne K (.ref (He.ga K "NoFraction")) (.ref (He.ga K "Unlike")) = some false),
  decide (PySem.W.findIn K (.ref (He.ga K "NoText")) "__getattribute__" = some (some (.builtin "BaseException.__getattribute__"))),
  decide (PySem.W.findIn K (.ref (He.ga K "NoText")) "__getattr__" = some none),
  decide (PySem.W.subIn K (.ref (He.ga K "NoText")) (.type "BaseException") = some true),
  decide (PySem.W.hasDictIn K (He.ga K "NoText") = true),
  decide (PySem.W.findIn K (.ref (He.ga K "NoText")) "__class__" = some (some (.builtin "object.__class__"))),
  decide (PySem.W.mroIn K (He.ga K "NoText") (.type "object") = some true),
  decide (PySem.W.subIn K (.ref (He.ga K "NoText")) (.ref (He.ga K "LeftError")) = some true),
  decide (PySem.W.kitOne K (.ref (He.ga K "NoText")) (.type "ValueError") = some true),
  decide (PySem.W.kitOne K (.ref (He.ga K "NoText")) (.ref (He.ga K "NoDepth")) = some false),
  decide (PySem.W.kitOne K (.ref (He.ga K "NoText")) (.ref (He.ga K "NoFigures")) = some false),
  decide (PySem.W.kitOne K (.ref (He.ga K "NoText")) (.ref (He.ga K "NoFraction")) = some false),
  decide (PySem.W.kitOne K (.ref (He.ga K "NoText")) (.ref (He.ga K "NoPlace")) = some false)]
def ts4 (K : PySem.W.Frag) : List Bool := [decide (PySem.W.kitOne K (.ref (He.ga K "NoText")) (.ref (He.ga K "NoPolynomial")) = some false),
  decide (PySem.W.kitOne K (.ref (He.ga K "NoText")) (.ref (He.ga K "NoPower")) = some false),
  decide (PySem.W.kitOne K (.ref (He.ga K "NoText")) (.ref (He.ga K "NoPrime")) = some false),
  decide (PySem.W.kitOne K (.ref (He.ga K "NoText")) (.ref (He.ga K "NoQuotient")) = some false),
  decide (PySem.W.kitOne K (.ref (He.ga K "NoText")) (.ref (He.ga K "NoRoot")) = some false),
  decide (PySem.W.kitOne K (.ref (He.ga K "NoText")) (.ref (He.ga K "NoSize")) = some false),
  decide (PySem.W.kitOne K (.ref (He.ga K "NoText")) (.ref (He.ga K "NoText")) = some true),
  decide (PySem.W.kitOne K (.ref (He.ga K "NoText")) (.ref (He.ga K "NotNear")) = some false),
  decide (PySem.W.kitOne K (.ref (He.ga K "NoText")) (.ref (He.ga K "TooFew")) = some false),
  decide (PySem.W.kitOne K (.ref (He.ga K "NoText")) (.ref (He.ga K "Unlike")) = some false),
  decide (PySem.W.specialIn K (.builtin "object.__class__") "__get__" = some (some (.builtin "getset_descriptor.__get__"))),
  decide (PySem.W.takesIn K (.builtin "object.__class__") = some true),
  decide (PySem.W.specialIn K (.builtin "object.__class__") "__get__" = some (some (.builtin "getset_descriptor.__get__"))),
  decide (PySem.W.takesIn K (.builtin "object.__class__") = some true),
  decide (PySem.W.nsIn K mainGlobals "Part" = some (some (.ref (He.ga K "Part")))),
  decide (PySem.W.nsIn K mainGlobals "Sum" = some (some (.ref (He.ga K "Sum")))),
  decide (PySem.W.nsIn K mainGlobals "Difference" = some (some (.ref (He.ga K "Difference")))),
  decide (PySem.W.nsIn K mainGlobals "Product" = some (some (.ref (He.ga K "Product")))),
  decide (PySem.W.nsIn K mainGlobals "Quotient" = some (some (.ref (He.ga K "Quotient")))),
  decide (PySem.W.nsIn K mainGlobals "Power" = some (some (.ref (He.ga K "Power")))),
  decide ([(He.ga K "Part"), (He.ga K "Sum"), (He.ga K "Difference"), (He.ga K "Product"), (He.ga K "Quotient"), (He.ga K "Power")].Nodup),
  decide (PySem.W.plainGet K (He.ga K "Part") Str.empty = true),
  decide (PySem.W.hasDictIn K (He.ga K "Part") = true),
  decide (PySem.W.plainOver K (He.ga K "Part") = true),
  decide (PySem.W.findIn K (.ref (He.ga K "Part")) "__setattr__" = some (some (.builtin "object.__setattr__")))]
def ts5 (K : PySem.W.Frag) : List Bool := [decide (PySem.W.findIn K (.ref (He.ga K "Part")) "__class__" = some (some (.builtin "object.__class__"))),
  decide (PySem.W.mroIn K (He.ga K "Part") (.type "object") = some true),
  decide (PySem.W.kitOne K (.ref (He.ga K "Part")) (.type "int") = some false),
  decide (PySem.W.kitOne K (.ref (He.ga K "Part")) (.type "bool") = some false),
  decide (PySem.W.kitOne K (.ref (He.ga K "Part")) (.type "str") = some false),
  decide (PySem.W.kitOne K (.ref (He.ga K "Part")) (.type "tuple") = some false),
  decide (PySem.W.kitOne K (.ref (He.ga K "Part")) (.type "list") = some false),
  decide (PySem.W.kitOne K (.ref (He.ga K "Part")) (.type "dict") = some false),
  decide (PySem.W.findIn K (.ref (He.ga K "Part")) "part" = some none),
  decide (PySem.W.findIn K (.ref (He.ga K "Part")) "one" = some none),
  decide (PySem.W.findIn K (.ref (He.ga K "Part")) "other" = some none),
  decide (PySem.W.findIn K (.ref (He.ga K "Part")) "n" = some none),
  decide (PySem.W.plainGet K (He.ga K "Sum") Str.empty = true),
  decide (PySem.W.hasDictIn K (He.ga K "Sum") = true),
  decide (PySem.W.plainOver K (He.ga K "Sum") = true),
  decide (PySem.W.findIn K (.ref (He.ga K "Sum")) "__setattr__" = some (some (.builtin "object.__setattr__"))),
  decide (PySem.W.findIn K (.ref (He.ga K "Sum")) "__class__" = some (some (.builtin "object.__class__"))),
  decide (PySem.W.mroIn K (He.ga K "Sum") (.type "object") = some true),
  decide (PySem.W.kitOne K (.ref (He.ga K "Sum")) (.type "int") = some false),
  decide (PySem.W.kitOne K (.ref (He.ga K "Sum")) (.type "bool") = some false),
  decide (PySem.W.kitOne K (.ref (He.ga K "Sum")) (.type "str") = some false),
  decide (PySem.W.kitOne K (.ref (He.ga K "Sum")) (.type "tuple") = some false),
  decide (PySem.W.kitOne K (.ref (He.ga K "Sum")) (.type "list") = some false),
  decide (PySem.W.kitOne K (.ref (He.ga K "Sum")) (.type "dict") = some false),
  decide (PySem.W.findIn K (.ref (He.ga K "Sum")) "part" = some none)]
def ts6 (K : PySem.W.Frag) : List Bool := [decide (PySem.W.findIn K (.ref (He.ga K "Sum")) "one" = some none),
  decide (PySem.W.findIn K (.ref (He.ga K "Sum")) "other" = some none),
  decide (PySem.W.findIn K (.ref (He.ga K "Sum")) "n" = some none),
  decide (PySem.W.plainGet K (He.ga K "Difference") Str.empty = true),
  decide (PySem.W.hasDictIn K (He.ga K "Difference") = true),
  decide (PySem.W.plainOver K (He.ga K "Difference") = true),
  decide (PySem.W.findIn K (.ref (He.ga K "Difference")) "__setattr__" = some (some (.builtin "object.__setattr__"))),
  decide (PySem.W.findIn K (.ref (He.ga K "Difference")) "__class__" = some (some (.builtin "object.__class__"))),
  decide (PySem.W.mroIn K (He.ga K "Difference") (.type "object") = some true),
  decide (PySem.W.kitOne K (.ref (He.ga K "Difference")) (.type "int") = some false),
  decide (PySem.W.kitOne K (.ref (He.ga K "Difference")) (.type "bool") = some false),
  decide (PySem.W.kitOne K (.ref (He.ga K "Difference")) (.type "str") = some false),
  decide (PySem.W.kitOne K (.ref (He.ga K "Difference")) (.type "tuple") = some false),
  decide (PySem.W.kitOne K (.ref (He.ga K "Difference")) (.type "list") = some false),
  decide (PySem.W.kitOne K (.ref (He.ga K "Difference")) (.type "dict") = some false),
  decide (PySem.W.findIn K (.ref (He.ga K "Difference")) "part" = some none),
  decide (PySem.W.findIn K (.ref (He.ga K "Difference")) "one" = some none),
  decide (PySem.W.findIn K (.ref (He.ga K "Difference")) "other" = some none),
  decide (PySem.W.findIn K (.ref (He.ga K "Difference")) "n" = some none),
  decide (PySem.W.plainGet K (He.ga K "Product") Str.empty = true),
  decide (PySem.W.hasDictIn K (He.ga K "Product") = true),
  decide (PySem.W.plainOver K (He.ga K "Product") = true),
  decide (PySem.W.findIn K (.ref (He.ga K "Product")) "__setattr__" = some (some (.builtin "object.__setattr__"))),
  decide (PySem.W.findIn K (.ref (He.ga K "Product")) "__class__" = some (some (.builtin "object.__class__"))),
  decide (PySem.W.mroIn K (He.ga K "Product") (.type "object") = some true)]
def ts7 (K : PySem.W.Frag) : List Bool := [decide (PySem.W.kitOne K (.ref (He.ga K "Product")) (.type "int") = some false),
  decide (PySem.W.kitOne K (.ref (He.ga K "Product")) (.type "bool") = some false),
  decide (PySem.W.kitOne K (.ref (He.ga K "Product")) (.type "str") = some false),
  decide (PySem.W.kitOne K (.ref (He.ga K "Product")) (.type "tuple") = some false),
  decide (PySem.W.kitOne K (.ref (He.ga K "Product")) (.type "list") = some false),
  decide (PySem.W.kitOne K (.ref (He.ga K "Product")) (.type "dict") = some false),
  decide (PySem.W.findIn K (.ref (He.ga K "Product")) "part" = some none),
  decide (PySem.W.findIn K (.ref (He.ga K "Product")) "one" = some none),
  decide (PySem.W.findIn K (.ref (He.ga K "Product")) "other" = some none),
  decide (PySem.W.findIn K (.ref (He.ga K "Product")) "n" = some none),
  decide (PySem.W.plainGet K (He.ga K "Quotient") Str.empty = true),
  decide (PySem.W.hasDictIn K (He.ga K "Quotient") = true),
  decide (PySem.W.plainOver K (He.ga K "Quotient") = true),
  decide (PySem.W.findIn K (.ref (He.ga K "Quotient")) "__setattr__" = some (some (.builtin "object.__setattr__"))),
  decide (PySem.W.findIn K (.ref (He.ga K "Quotient")) "__class__" = some (some (.builtin "object.__class__"))),
  decide (PySem.W.mroIn K (He.ga K "Quotient") (.type "object") = some true),
  decide (PySem.W.kitOne K (.ref (He.ga K "Quotient")) (.type "int") = some false),
  decide (PySem.W.kitOne K (.ref (He.ga K "Quotient")) (.type "bool") = some false),
  decide (PySem.W.kitOne K (.ref (He.ga K "Quotient")) (.type "str") = some false),
  decide (PySem.W.kitOne K (.ref (He.ga K "Quotient")) (.type "tuple") = some false),
  decide (PySem.W.kitOne K (.ref (He.ga K "Quotient")) (.type "list") = some false),
  decide (PySem.W.kitOne K (.ref (He.ga K "Quotient")) (.type "dict") = some false),
  decide (PySem.W.findIn K (.ref (He.ga K "Quotient")) "part" = some none),
  decide (PySem.W.findIn K (.ref (He.ga K "Quotient")) "one" = some none),
  decide (PySem.W.findIn K (.ref (He.ga K "Quotient")) "other" = some none)]
def ts8 (K : PySem.W.Frag) : List Bool := [decide (PySem.W.findIn K (.ref (He.ga K "Quotient")) "n" = some none),
  decide (PySem.W.plainGet K (He.ga K "Power") Str.empty = true),
  decide (PySem.W.hasDictIn K (He.ga K "Power") = true),
  decide (PySem.W.plainOver K (He.ga K "Power") = true),
  decide (PySem.W.findIn K (.ref (He.ga K "Power")) "__setattr__" = some (some (.builtin "object.__setattr__"))),
  decide (PySem.W.findIn K (.ref (He.ga K "Power")) "__class__" = some (some (.builtin "object.__class__"))),
  decide (PySem.W.mroIn K (He.ga K "Power") (.type "object") = some true),
  decide (PySem.W.kitOne K (.ref (He.ga K "Power")) (.type "int") = some false),
  decide (PySem.W.kitOne K (.ref (He.ga K "Power")) (.type "bool") = some false),
  decide (PySem.W.kitOne K (.ref (He.ga K "Power")) (.type "str") = some false),
  decide (PySem.W.kitOne K (.ref (He.ga K "Power")) (.type "tuple") = some false),
  decide (PySem.W.kitOne K (.ref (He.ga K "Power")) (.type "list") = some false),
  decide (PySem.W.kitOne K (.ref (He.ga K "Power")) (.type "dict") = some false),
  decide (PySem.W.findIn K (.ref (He.ga K "Power")) "part" = some none),
  decide (PySem.W.findIn K (.ref (He.ga K "Power")) "one" = some none),
  decide (PySem.W.findIn K (.ref (He.ga K "Power")) "other" = some none),
  decide (PySem.W.findIn K (.ref (He.ga K "Power")) "n" = some none),
  decide (PySem.W.makesIn K (He.ga K "Difference") = true),
  decide (PySem.W.keepIn K (.ref (He.ga K "Difference")) = true),
  decide (PySem.W.makesIn K (He.ga K "Part") = true),
  decide (PySem.W.keepIn K (.ref (He.ga K "Part")) = true),
  decide (PySem.W.makesIn K (He.ga K "Power") = true),
  decide (PySem.W.keepIn K (.ref (He.ga K "Power")) = true),
  decide (PySem.W.makesIn K (He.ga K "Product") = true),
  decide (PySem.W.keepIn K (.ref (He.ga K "Product")) = true)]
def ts9 (K : PySem.W.Frag) : List Bool := [decide (PySem.W.makesIn K (He.ga K "Quotient") = true),
  decide (PySem.W.keepIn K (.ref (He.ga K "Quotient")) = true),
  decide (PySem.W.makesIn K (He.ga K "Sum") = true),
  decide (PySem.W.keepIn K (.ref (He.ga K "Sum")) = true),
  decide (PySem.W.findIn K (.ref (He.ga K "Difference")) "__init__" = some (some (.ref (He.ma K (He.ga K "Pair") "__init__")))),
  decide (PySem.W.findIn K (.ref (He.ga K "Part")) "__init__" = some (some (.ref (He.ma K (He.ga K "Part") "__init__")))),
  decide (PySem.W.findIn K (.ref (He.ga K "Power")) "__init__" = some (some (.ref (He.ma K (He.ga K "Power") "__init__")))),
  decide (PySem.W.findIn K (.ref (He.ga K "Product")) "__init__" = some (some (.ref (He.ma K (He.ga K "Pair") "__init__")))),
  decide (PySem.W.findIn K (.ref (He.ga K "Quotient")) "__init__" = some (some (.ref (He.ma K (He.ga K "Pair") "__init__")))),
  decide (PySem.W.findIn K (.ref (He.ga K "Sum")) "__init__" = some (some (.ref (He.ma K (He.ga K "Pair") "__init__")))),
  decide (PySem.W.findIn K (.ref (He.ga K "Part")) "weight" = some (some (.ref (He.ma K (He.ga K "Term") "weight")))),
  decide (PySem.W.findIn K (.ref (He.ga K "Sum")) "weight" = some (some (.ref (He.ma K (He.ga K "Pair") "weight")))),
  decide (PySem.W.findIn K (.ref (He.ga K "Difference")) "weight" = some (some (.ref (He.ma K (He.ga K "Pair") "weight")))),
  decide (PySem.W.findIn K (.ref (He.ga K "Product")) "weight" = some (some (.ref (He.ma K (He.ga K "Pair") "weight")))),
  decide (PySem.W.findIn K (.ref (He.ga K "Quotient")) "weight" = some (some (.ref (He.ma K (He.ga K "Pair") "weight")))),
  decide (PySem.W.findIn K (.ref (He.ga K "Power")) "weight" = some (some (.ref (He.ma K (He.ga K "Power") "weight")))),
  decide (PySem.W.findIn K (.ref (He.ga K "Part")) "shown" = some (some (.ref (He.ma K (He.ga K "Part") "shown")))),
  decide (PySem.W.findIn K (.ref (He.ga K "Sum")) "shown" = some (some (.ref (He.ma K (He.ga K "Pair") "shown")))),
  decide (PySem.W.findIn K (.ref (He.ga K "Difference")) "shown" = some (some (.ref (He.ma K (He.ga K "Pair") "shown")))),
  decide (PySem.W.findIn K (.ref (He.ga K "Product")) "shown" = some (some (.ref (He.ma K (He.ga K "Pair") "shown")))),
  decide (PySem.W.findIn K (.ref (He.ga K "Quotient")) "shown" = some (some (.ref (He.ma K (He.ga K "Pair") "shown")))),
  decide (PySem.W.findIn K (.ref (He.ga K "Power")) "shown" = some (some (.ref (He.ma K (He.ga K "Power") "shown")))),
  decide (PySem.W.findIn K (.ref (He.ga K "Sum")) "sign" = some (some (.ref (He.ma K (He.ga K "Sum") "sign")))),
  decide (PySem.W.findIn K (.ref (He.ga K "Difference")) "sign" = some (some (.ref (He.ma K (He.ga K "Difference") "sign")))),
  decide (PySem.W.findIn K (.ref (He.ga K "Product")) "sign" = some (some (.ref (He.ma K (He.ga K "Product") "sign"))))]
def ts10 (K : PySem.W.Frag) : List Bool := [decide (PySem.W.findIn K (.ref (He.ga K "Quotient")) "sign" = some (some (.ref (He.ma K (He.ga K "Quotient") "sign")))),
  decide (PySem.W.isFn K (.ref (He.ma K (He.ga K "Term") "weight")) = true),
  decide (PySem.W.isFn K (.ref (He.ma K (He.ga K "Pair") "weight")) = true),
  decide (PySem.W.isFn K (.ref (He.ma K (He.ga K "Power") "weight")) = true),
  decide (PySem.W.isFn K (.ref (He.ma K (He.ga K "Part") "shown")) = true),
  decide (PySem.W.isFn K (.ref (He.ma K (He.ga K "Sum") "sign")) = true),
  decide (PySem.W.isFn K (.ref (He.ma K (He.ga K "Difference") "sign")) = true),
  decide (PySem.W.isFn K (.ref (He.ma K (He.ga K "Product") "sign")) = true),
  decide (PySem.W.isFn K (.ref (He.ma K (He.ga K "Quotient") "sign")) = true),
  decide (PySem.W.isFn K (.ref (He.ma K (He.ga K "Pair") "shown")) = true),
  decide (PySem.W.isFn K (.ref (He.ma K (He.ga K "Power") "shown")) = true),
  decide (PySem.W.isFn K (.ref (He.ma K (He.ga K "Pair") "__init__")) = true),
  decide (PySem.W.isFn K (.ref (He.ma K (He.ga K "Part") "__init__")) = true),
  decide (PySem.W.isFn K (.ref (He.ma K (He.ga K "Power") "__init__")) = true)]
def tsA (K : PySem.W.Frag) : List (List Bool) := [ts0 K, ts1 K, ts2 K, ts3 K, ts4 K, ts5 K, ts6 K, ts7 K, ts8 K, ts9 K, ts10 K]
def fn0 : List He.DefD := [⟨("is_whole", none), "is_whole", "is_whole", defArgs st_is_whole, defBody st_is_whole, defScope st_is_whole, [], []⟩,
  ⟨("divisor", none), "divisor", "divisor", defArgs st_divisor, defBody st_divisor, defScope st_divisor, [], []⟩,
  ⟨("fraction", none), "fraction", "fraction", defArgs st_fraction, defBody st_fraction, defScope st_fraction, [.int 1], []⟩,
  ⟨("number_of", none), "number_of", "number_of", defArgs st_number_of, defBody st_number_of, defScope st_number_of, [], []⟩,
  ⟨("whole_of", none), "whole_of", "whole_of", defArgs st_whole_of, defBody st_whole_of, defScope st_whole_of, [], []⟩,
  ⟨("part_of", none), "part_of", "part_of", defArgs st_part_of, defBody st_part_of, defScope st_part_of, [], []⟩,
  ⟨("word_at", none), "word_at", "word_at", defArgs st_word_at, defBody st_word_at, defScope st_word_at, [], []⟩,
  ⟨("of_two", none), "of_two", "of_two", defArgs st_of_two, defBody st_of_two, defScope st_of_two, [], []⟩,
  ⟨("read_deed", none), "read_deed", "read_deed", defArgs st_read_deed, defBody st_read_deed, defScope st_read_deed, [], []⟩,
  ⟨("read_at", none), "read_at", "read_at", defArgs st_read_at, defBody st_read_at, defScope st_read_at, [], []⟩,
  ⟨("read_term", none), "read_term", "read_term", defArgs st_read_term, defBody st_read_term, defScope st_read_term, [], []⟩,
  ⟨("_law_cell_at", none), "_law_cell_at", "_law_cell_at", defArgs st__law_cell_at, defBody st__law_cell_at, defScope st__law_cell_at, [], []⟩,
  ⟨("_law_text", none), "_law_text", "_law_text", defArgs st__law_text, defBody st__law_text, defScope st__law_text, [], []⟩,
  ⟨("_law_spoiled", none), "_law_spoiled", "_law_spoiled", defArgs st__law_spoiled, defBody st__law_spoiled, defScope st__law_spoiled, [], []⟩,
  ⟨("_law_border", none), "_law_border", "_law_border", defArgs st__law_border, defBody st__law_border, defScope st__law_border, [], []⟩,
  ⟨("_law_is_whole", none), "_law_is_whole", "_law_is_whole", defArgs st__law_is_whole, defBody st__law_is_whole, defScope st__law_is_whole, [], []⟩,
  ⟨("_law_part", none), "_law_part", "_law_part", defArgs st__law_part, defBody st__law_part, defScope st__law_part, [], []⟩,
  ⟨("_law_word", none), "_law_word", "_law_word", defArgs st__law_word, defBody st__law_word, defScope st__law_word, [], []⟩,
  ⟨("_law_shut", none), "_law_shut", "_law_shut", defArgs st__law_shut, defBody st__law_shut, defScope st__law_shut, [], []⟩,
  ⟨("_law_due", none), "_law_due", "_law_due", defArgs st__law_due, defBody st__law_due, defScope st__law_due, [], []⟩,
  ⟨("_law_others", none), "_law_others", "_law_others", defArgs st__law_others, defBody st__law_others, defScope st__law_others, [], []⟩,
  ⟨("_law_refused", none), "_law_refused", "_law_refused", defArgs st__law_refused, defBody st__law_refused, defScope st__law_refused, [], []⟩,
  ⟨("law", none), "law", "law", defArgs st_law, defBody st_law, defScope st_law, [], []⟩,
  ⟨("Term", some "weight"), "weight", "Term.weight", defArgs st_Term_weight, defBody st_Term_weight, defScope st_Term_weight, [], []⟩,
  ⟨("Pair", some "weight"), "weight", "Pair.weight", defArgs st_Pair_weight, defBody st_Pair_weight, defScope st_Pair_weight, [], []⟩]
def fn1 : List He.DefD := [⟨("Power", some "weight"), "weight", "Power.weight", defArgs st_Power_weight, defBody st_Power_weight, defScope st_Power_weight, [], []⟩,
  ⟨("Part", some "shown"), "shown", "Part.shown", defArgs st_Part_shown, defBody st_Part_shown, defScope st_Part_shown, [], []⟩,
  ⟨("Sum", some "sign"), "sign", "Sum.sign", defArgs st_Sum_sign, defBody st_Sum_sign, defScope st_Sum_sign, [], []⟩,
  ⟨("Difference", some "sign"), "sign", "Difference.sign", defArgs st_Difference_sign, defBody st_Difference_sign, defScope st_Difference_sign, [], []⟩,
  ⟨("Product", some "sign"), "sign", "Product.sign", defArgs st_Product_sign, defBody st_Product_sign, defScope st_Product_sign, [], []⟩,
  ⟨("Quotient", some "sign"), "sign", "Quotient.sign", defArgs st_Quotient_sign, defBody st_Quotient_sign, defScope st_Quotient_sign, [], []⟩,
  ⟨("Pair", some "shown"), "shown", "Pair.shown", defArgs st_Pair_shown, defBody st_Pair_shown, defScope st_Pair_shown, [], []⟩,
  ⟨("Power", some "shown"), "shown", "Power.shown", defArgs st_Power_shown, defBody st_Power_shown, defScope st_Power_shown, [], []⟩,
  ⟨("Pair", some "__init__"), "__init__", "Pair.__init__", defArgs st_Pair___init__, defBody st_Pair___init__, defScope st_Pair___init__, [], []⟩,
  ⟨("Part", some "__init__"), "__init__", "Part.__init__", defArgs st_Part___init__, defBody st_Part___init__, defScope st_Part___init__, [], []⟩,
  ⟨("Power", some "__init__"), "__init__", "Power.__init__", defArgs st_Power___init__, defBody st_Power___init__, defScope st_Power___init__, [], []⟩]
def fnA : List He.DefD := fn0 ++ fn1
theorem facts {l : PySem.W.OpenLaw} {w : World} {K : PySem.W.Frag} {h : Heap} {mg : Str → Option Value} {fa : Addr} (X : K.In h) (G : h.Ns mainGlobals mg) (hfa : mg "law" = some (.ref fa)) (c : PH.SaysT tsA fnA K)
    : ∃ fd : FuncData, (∀ (s : Shared) (v : Value), BindsTo s fd ⟨[v], []⟩ [("_law_script", v)]) ∧ ∀ base : Heap, K.In base → base.Ns mainGlobals mg → FnOk l.prog w K mg base (L2N.CX l.prog w) 32 fa fd ["_law_script"] (spLaw K) := by
  have h0 := c.chunk (l := ts0 K) 0 rfl
  have h1 := c.chunk (l := ts1 K) 1 rfl
  have h2 := c.chunk (l := ts2 K) 2 rfl
  have h3 := c.chunk (l := ts3 K) 3 rfl
  have h4 := c.chunk (l := ts4 K) 4 rfl
  have h5 := c.chunk (l := ts5 K) 5 rfl
  have h6 := c.chunk (l := ts6 K) 6 rfl
  have h7 := c.chunk (l := ts7 K) 7 rfl
  have h8 := c.chunk (l := ts8 K) 8 rfl
  have h9 := c.chunk (l := ts9 K) 9 rfl
  have h10 := c.chunk (l := ts10 K) 10 rfl
  obtain ⟨oc0, od0, kV0, dc0, pm0, an0, cd0, ct0, sl0, l0, c0, k0⟩ := PH.lok (x := "is_whole") (q := "is_whole") (st := st_is_whole) (f := He.ga K "is_whole") (c.def_ 0 rfl)
  obtain ⟨oc1, od1, kV1, dc1, pm1, an1, cd1, ct1, sl1, l1, c1, k1⟩ := PH.lok (x := "divisor") (q := "divisor") (st := st_divisor) (f := He.ga K "divisor") (c.def_ 1 rfl)
  obtain ⟨oc2, od2, T2, kV2, dc2, pm2, an2, cd2, ct2, sl2, tc2, td2, tt2, tm2, tl2, l2, c2, k2, lt2⟩ := PH.lokD (x := "fraction") (q := "fraction") (st := st_fraction) (f := He.ga K "fraction") (c.def_ 2 rfl)
  obtain ⟨oc3, od3, kV3, dc3, pm3, an3, cd3, ct3, sl3, l3, c3, k3⟩ := PH.lok (x := "number_of") (q := "number_of") (st := st_number_of) (f := He.ga K "number_of") (c.def_ 3 rfl)
  obtain ⟨oc4, od4, kV4, dc4, pm4, an4, cd4, ct4, sl4, l4, c4, k4⟩ := PH.lok (x := "whole_of") (q := "whole_of") (st := st_whole_of) (f := He.ga K "whole_of") (c.def_ 4 rfl)
  obtain ⟨oc5, od5, kV5, dc5, pm5, an5, cd5, ct5, sl5, l5, c5, k5⟩ := PH.lok (x := "part_of") (q := "part_of") (st := st_part_of) (f := He.ga K "part_of") (c.def_ 5 rfl)
  obtain ⟨oc6, od6, kV6, dc6, pm6, an6, cd6, ct6, sl6, l6, c6, k6⟩ := PH.lok (x := "word_at") (q := "word_at") (st := st_word_at) (f := He.ga K "word_at") (c.def_ 6 rfl)
  obtain ⟨oc7, od7, kV7, dc7, pm7, an7, cd7, ct7, sl7, l7, c7, k7⟩ := PH.lok (x := "of_two") (q := "of_two") (st := st_of_two) (f := He.ga K "of_two") (c.def_ 7 rfl)
  obtain ⟨oc8, od8, kV8, dc8, pm8, an8, cd8, ct8, sl8, l8, c8, k8⟩ := PH.lok (x := "read_deed") (q := "read_deed") (st := st_read_deed) (f := He.ga K "read_deed") (c.def_ 8 rfl)
  obtain ⟨oc9, od9, kV9, dc9, pm9, an9, cd9, ct9, sl9, l9, c9, k9⟩ := PH.lok (x := "read_at") (q := "read_at") (st := st_read_at) (f := He.ga K "read_at") (c.def_ 9 rfl)
  obtain ⟨oc10, od10, kV10, dc10, pm10, an10, cd10, ct10, sl10, l10, c10, k10⟩ := PH.lok (x := "read_term") (q := "read_term") (st := st_read_term) (f := He.ga K "read_term") (c.def_ 10 rfl)
  obtain ⟨oc11, od11, kV11, dc11, pm11, an11, cd11, ct11, sl11, l11, c11, k11⟩ := PH.lok (x := "_law_cell_at") (q := "_law_cell_at") (st := st__law_cell_at) (f := He.ga K "_law_cell_at") (c.def_ 11 rfl)
  obtain ⟨oc12, od12, kV12, dc12, pm12, an12, cd12, ct12, sl12, l12, c12, k12⟩ := PH.lok (x := "_law_text") (q := "_law_text") (st := st__law_text) (f := He.ga K "_law_text") (c.def_ 12 rfl)
  obtain ⟨oc13, od13, kV13, dc13, pm13, an13, cd13, ct13, sl13, l13, c13, k13⟩ := PH.lok (x := "_law_spoiled") (q := "_law_spoiled") (st := st__law_spoiled) (f := He.ga K "_law_spoiled") (c.def_ 13 rfl)
  obtain ⟨oc14, od14, kV14, dc14, pm14, an14, cd14, ct14, sl14, l14, c14, k14⟩ := PH.lok (x := "_law_border") (q := "_law_border") (st := st__law_border) (f := He.ga K "_law_border") (c.def_ 14 rfl)
  obtain ⟨oc15, od15, kV15, dc15, pm15, an15, cd15, ct15, sl15, l15, c15, k15⟩ := PH.lok (x := "_law_is_whole") (q := "_law_is_whole") (st := st__law_is_whole) (f := He.ga K "_law_is_whole") (c.def_ 15 rfl)
  obtain ⟨oc16, od16, kV16, dc16, pm16, an16, cd16, ct16, sl16, l16, c16, k16⟩ := PH.lok (x := "_law_part") (q := "_law_part") (st := st__law_part) (f := He.ga K "_law_part") (c.def_ 16 rfl)
  obtain ⟨oc17, od17, kV17, dc17, pm17, an17, cd17, ct17, sl17, l17, c17, k17⟩ := PH.lok (x := "_law_word") (q := "_law_word") (st := st__law_word) (f := He.ga K "_law_word") (c.def_ 17 rfl)
  obtain ⟨oc18, od18, kV18, dc18, pm18, an18, cd18, ct18, sl18, l18, c18, k18⟩ := PH.lok (x := "_law_shut") (q := "_law_shut") (st := st__law_shut) (f := He.ga K "_law_shut") (c.def_ 18 rfl)
  obtain ⟨oc19, od19, kV19, dc19, pm19, an19, cd19, ct19, sl19, l19, c19, k19⟩ := PH.lok (x := "_law_due") (q := "_law_due") (st := st__law_due) (f := He.ga K "_law_due") (c.def_ 19 rfl)
  obtain ⟨oc20, od20, kV20, dc20, pm20, an20, cd20, ct20, sl20, l20, c20, k20⟩ := PH.lok (x := "_law_others") (q := "_law_others") (st := st__law_others) (f := He.ga K "_law_others") (c.def_ 20 rfl)
  obtain ⟨oc21, od21, kV21, dc21, pm21, an21, cd21, ct21, sl21, l21, c21, k21⟩ := PH.lok (x := "_law_refused") (q := "_law_refused") (st := st__law_refused) (f := He.ga K "_law_refused") (c.def_ 21 rfl)
  obtain ⟨oc22, od22, kV22, dc22, pm22, an22, cd22, ct22, sl22, l22, c22, k22⟩ := PH.lok (x := "law") (q := "law") (st := st_law) (f := He.ga K "law") (c.def_ 22 rfl)
  obtain ⟨ocm0, odm0, kVm0, dcm0, pmm0, anm0, cdm0, ctm0, slm0, ml0, mc0, mk0⟩ := PH.lok (x := "weight") (q := "Term.weight") (st := st_Term_weight) (f := He.ma K (He.ga K "Term") "weight") (c.def_ 23 rfl)
  obtain ⟨ocm1, odm1, kVm1, dcm1, pmm1, anm1, cdm1, ctm1, slm1, ml1, mc1, mk1⟩ := PH.lok (x := "weight") (q := "Pair.weight") (st := st_Pair_weight) (f := He.ma K (He.ga K "Pair") "weight") (c.def_ 24 rfl)
  obtain ⟨ocm2, odm2, kVm2, dcm2, pmm2, anm2, cdm2, ctm2, slm2, ml2, mc2, mk2⟩ := PH.lok (x := "weight") (q := "Power.weight") (st := st_Power_weight) (f := He.ma K (He.ga K "Power") "weight") (c.def_ 25 rfl)
  obtain ⟨ocm3, odm3, kVm3, dcm3, pmm3, anm3, cdm3, ctm3, slm3, ml3, mc3, mk3⟩ := PH.lok (x := "shown") (q := "Part.shown") (st := st_Part_shown) (f := He.ma K (He.ga K "Part") "shown") (c.def_ 26 rfl)
  obtain ⟨ocm4, odm4, kVm4, dcm4, pmm4, anm4, cdm4, ctm4, slm4, ml4, mc4, mk4⟩ := PH.lok (x := "sign") (q := "Sum.sign") (st := st_Sum_sign) (f := He.ma K (He.ga K "Sum") "sign") (c.def_ 27 rfl)
  obtain ⟨ocm5, odm5, kVm5, dcm5, pmm5, anm5, cdm5, ctm5, slm5, ml5, mc5, mk5⟩ := PH.lok (x := "sign") (q := "Difference.sign") (st := st_Difference_sign) (f := He.ma K (He.ga K "Difference") "sign") (c.def_ 28 rfl)
  obtain ⟨ocm6, odm6, kVm6, dcm6, pmm6, anm6, cdm6, ctm6, slm6, ml6, mc6, mk6⟩ := PH.lok (x := "sign") (q := "Product.sign") (st := st_Product_sign) (f := He.ma K (He.ga K "Product") "sign") (c.def_ 29 rfl)
  obtain ⟨ocm7, odm7, kVm7, dcm7, pmm7, anm7, cdm7, ctm7, slm7, ml7, mc7, mk7⟩ := PH.lok (x := "sign") (q := "Quotient.sign") (st := st_Quotient_sign) (f := He.ma K (He.ga K "Quotient") "sign") (c.def_ 30 rfl)
  obtain ⟨ocm8, odm8, kVm8, dcm8, pmm8, anm8, cdm8, ctm8, slm8, ml8, mc8, mk8⟩ := PH.lok (x := "shown") (q := "Pair.shown") (st := st_Pair_shown) (f := He.ma K (He.ga K "Pair") "shown") (c.def_ 31 rfl)
  obtain ⟨ocm9, odm9, kVm9, dcm9, pmm9, anm9, cdm9, ctm9, slm9, ml9, mc9, mk9⟩ := PH.lok (x := "shown") (q := "Power.shown") (st := st_Power_shown) (f := He.ma K (He.ga K "Power") "shown") (c.def_ 32 rfl)
  obtain ⟨ocm10, odm10, kVm10, dcm10, pmm10, anm10, cdm10, ctm10, slm10, ml10, mc10, mk10⟩ := PH.lok (x := "__init__") (q := "Pair.__init__") (st := st_Pair___init__) (f := He.ma K (He.ga K "Pair") "__init__") (c.def_ 33 rfl)
  obtain ⟨ocm11, odm11, kVm11, dcm11, pmm11, anm11, cdm11, ctm11, slm11, ml11, mc11, mk11⟩ := PH.lok (x := "__init__") (q := "Part.__init__") (st := st_Part___init__) (f := He.ma K (He.ga K "Part") "__init__") (c.def_ 34 rfl)
  obtain ⟨ocm12, odm12, kVm12, dcm12, pmm12, anm12, cdm12, ctm12, slm12, ml12, mc12, mk12⟩ := PH.lok (x := "__init__") (q := "Power.__init__") (st := st_Power___init__) (f := He.ma K (He.ga K "Power") "__init__") (c.def_ 35 rfl)
  obtain ⟨t0, g0⟩ := PH.strB_ok (PH.fact h1 8 rfl)
  obtain ⟨t1, g1⟩ := PH.intB_ok (PH.fact h1 9 rfl)
  obtain ⟨t2, g2⟩ := PH.intB_ok (PH.fact h1 10 rfl)
  obtain ⟨t3, g3⟩ := PH.intB_ok (PH.fact h1 11 rfl)
  obtain ⟨t4, g4⟩ := PH.intB_ok (PH.fact h1 12 rfl)
  exact all_mk (f0 := (He.ga K "is_whole")) (f1 := (He.ga K "divisor")) (f2 := (He.ga K "fraction")) (f3 := (He.ga K "number_of")) (f4 := (He.ga K "whole_of")) (f5 := (He.ga K "part_of")) (f6 := (He.ga K "word_at")) (f7 := (He.ga K "of_two")) (f8 := (He.ga K "read_deed")) (f9 := (He.ga K "read_at")) (f10 := (He.ga K "read_term")) (f11 := (He.ga K "_law_cell_at")) (f12 := (He.ga K "_law_text")) (f13 := (He.ga K "_law_spoiled")) (f14 := (He.ga K "_law_border")) (f15 := (He.ga K "_law_is_whole")) (f16 := (He.ga K "_law_part")) (f17 := (He.ga K "_law_word")) (f18 := (He.ga K "_law_shut")) (f19 := (He.ga K "_law_due")) (f20 := (He.ga K "_law_others")) (f21 := (He.ga K "_law_refused")) (f22 := (He.ga K "law")) (C0 := (He.ga K "NoFraction")) (C1 := (He.ga K "NoText")) (U0 := (He.ga K "LeftError")) (U1 := (He.ga K "NoDepth")) (U2 := (He.ga K "NoFigures")) (U3 := (He.ga K "NoFraction")) (U4 := (He.ga K "NoPlace")) (U5 := (He.ga K "NoPolynomial")) (U6 := (He.ga K "NoPower")) (U7 := (He.ga K "NoPrime")) (U8 := (He.ga K "NoQuotient")) (U9 := (He.ga K "NoRoot")) (U10 := (He.ga K "NoSize")) (U11 := (He.ga K "NoText")) (U12 := (He.ga K "NotNear")) (U13 := (He.ga K "TooFew")) (U14 := (He.ga K "Unlike")) (Y0 := (He.ga K "Part")) (Y1 := (He.ga K "Sum")) (Y2 := (He.ga K "Difference")) (Y3 := (He.ga K "Product")) (Y4 := (He.ga K "Quotient")) (Y5 := (He.ga K "Power")) (fm0 := (He.ma K (He.ga K "Term") "weight")) (fm1 := (He.ma K (He.ga K "Pair") "weight")) (fm2 := (He.ma K (He.ga K "Power") "weight")) (fm3 := (He.ma K (He.ga K "Part") "shown")) (fm4 := (He.ma K (He.ga K "Sum") "sign")) (fm5 := (He.ma K (He.ga K "Difference") "sign")) (fm6 := (He.ma K (He.ga K "Product") "sign")) (fm7 := (He.ma K (He.ga K "Quotient") "sign")) (fm8 := (He.ma K (He.ga K "Pair") "shown")) (fm9 := (He.ma K (He.ga K "Power") "shown")) (fm10 := (He.ma K (He.ga K "Pair") "__init__")) (fm11 := (He.ma K (He.ga K "Part") "__init__")) (fm12 := (He.ma K (He.ga K "Power") "__init__")) X G hfa (of_decide_eq_true (PH.fact h0 0 rfl)) l0 c0 k0 (of_decide_eq_true (PH.fact h0 1 rfl)) l1 c1 k1 (of_decide_eq_true (PH.fact h0 2 rfl)) l2 c2 k2 lt2 (of_decide_eq_true (PH.fact h0 3 rfl)) l3 c3 k3 (of_decide_eq_true (PH.fact h0 4 rfl)) l4 c4 k4 (of_decide_eq_true (PH.fact h0 5 rfl)) l5 c5 k5 (of_decide_eq_true (PH.fact h0 6 rfl)) l6 c6 k6 (of_decide_eq_true (PH.fact h0 7 rfl)) l7 c7 k7 (of_decide_eq_true (PH.fact h0 8 rfl)) l8 c8 k8 (of_decide_eq_true (PH.fact h0 9 rfl)) l9 c9 k9 (of_decide_eq_true (PH.fact h0 10 rfl)) l10 c10 k10 (of_decide_eq_true (PH.fact h0 11 rfl)) l11 c11 k11 (of_decide_eq_true (PH.fact h0 12 rfl)) l12 c12 k12 (of_decide_eq_true (PH.fact h0 13 rfl)) l13 c13 k13 (of_decide_eq_true (PH.fact h0 14 rfl)) l14 c14 k14 (of_decide_eq_true (PH.fact h0 15 rfl)) l15 c15 k15 (of_decide_eq_true (PH.fact h0 16 rfl)) l16 c16 k16 (of_decide_eq_true (PH.fact h0 17 rfl)) l17 c17 k17 (of_decide_eq_true (PH.fact h0 18 rfl)) l18 c18 k18 (of_decide_eq_true (PH.fact h0 19 rfl)) l19 c19 k19 (of_decide_eq_true (PH.fact h0 20 rfl)) l20 c20 k20 (of_decide_eq_true (PH.fact h0 21 rfl)) l21 c21 k21 (of_decide_eq_true (PH.fact h0 22 rfl)) l22 c22 k22 (of_decide_eq_true (PH.fact h0 23 rfl)) (of_decide_eq_true (PH.fact h0 24 rfl)) (of_decide_eq_true (PH.fact h1 0 rfl)) (of_decide_eq_true (PH.fact h1 1 rfl)) (of_decide_eq_true (PH.fact h1 2 rfl)) (of_decide_eq_true (PH.fact h1 3 rfl)) (of_decide_eq_true (PH.fact h1 4 rfl)) (of_decide_eq_true (PH.fact h1 5 rfl)) (of_decide_eq_true (PH.fact h1 6 rfl)) (of_decide_eq_true (PH.fact h1 7 rfl)) g0 g1 g2 g3 g4 (of_decide_eq_true (PH.fact h1 13 rfl)) (of_decide_eq_true (PH.fact h1 14 rfl)) (of_decide_eq_true (PH.fact h1 15 rfl)) (of_decide_eq_true (PH.fact h1 16 rfl)) (of_decide_eq_true (PH.fact h1 17 rfl)) (of_decide_eq_true (PH.fact h1 18 rfl)) (of_decide_eq_true (PH.fact h1 19 rfl)) (of_decide_eq_true (PH.fact h1 20 rfl)) (of_decide_eq_true (PH.fact h1 21 rfl)) (of_decide_eq_true (PH.fact h1 22 rfl)) (of_decide_eq_true (PH.fact h1 23 rfl)) (of_decide_eq_true (PH.fact h1 24 rfl)) (of_decide_eq_true (PH.fact h2 0 rfl)) (of_decide_eq_true (PH.fact h2 1 rfl)) (of_decide_eq_true (PH.fact h2 2 rfl)) (of_decide_eq_true (PH.fact h2 3 rfl)) (of_decide_eq_true (PH.fact h2 4 rfl)) (of_decide_eq_true (PH.fact h2 5 rfl)) (of_decide_eq_true (PH.fact h2 6 rfl)) (of_decide_eq_true (PH.fact h2 7 rfl)) (of_decide_eq_true (PH.fact h2 8 rfl)) (of_decide_eq_true (PH.fact h2 9 rfl)) (of_decide_eq_true (PH.fact h2 10 rfl)) (of_decide_eq_true (PH.fact h2 11 rfl)) (of_decide_eq_true (PH.fact h2 12 rfl)) (of_decide_eq_true (PH.fact h2 13 rfl)) (of_decide_eq_true (PH.fact h2 14 rfl)) (of_decide_eq_true (PH.fact h2 15 rfl)) (of_decide_eq_true (PH.fact h2 16 rfl)) (of_decide_eq_true (PH.fact h2 17 rfl)) (of_decide_eq_true (PH.fact h2 18 rfl)) (of_decide_eq_true (PH.fact h2 19 rfl)) (of_decide_eq_true (PH.fact h2 20 rfl)) (of_decide_eq_true (PH.fact h2 21 rfl)) (of_decide_eq_true (PH.fact h2 22 rfl)) (of_decide_eq_true (PH.fact h2 23 rfl)) (of_decide_eq_true (PH.fact h2 24 rfl)) (of_decide_eq_true (PH.fact h3 0 rfl)) (of_decide_eq_true (PH.fact h3 1 rfl)) (of_decide_eq_true (PH.fact h3 2 rfl)) (of_decide_eq_true (PH.fact h3 3 rfl)) (of_decide_eq_true (PH.fact h3 4 rfl)) (of_decide_eq_true (PH.fact h3 5 rfl)) (of_decide_eq_true (PH.fact h3 6 rfl)) (of_decide_eq_true (PH.fact h3 7 rfl)) (of_decide_eq_true (PH.fact h3 8 rfl)) (of_decide_eq_true (PH.fact h3 9 rfl)) (of_decide_eq_true (PH.fact h3 10 rfl)) (of_decide_eq_true (PH.fact h3 11 rfl)) (of_decide_eq_true (PH.fact h3 12 rfl)) (of_decide_eq_true (PH.fact h3 13 rfl)) (of_decide_eq_true (PH.fact h3 14 rfl)) (of_decide_eq_true (PH.fact h3 15 rfl)) (of_decide_eq_true (PH.fact h3 16 rfl)) (of_decide_eq_true (PH.fact h3 17 rfl)) (of_decide_eq_true (PH.fact h3 18 rfl)) (of_decide_eq_true (PH.fact h3 19 rfl)) (of_decide_eq_true (PH.fact h3 20 rfl)) (of_decide_eq_true (PH.fact h3 21 rfl)) (of_decide_eq_true (PH.fact h3 22 rfl)) (of_decide_eq_true (PH.fact h3 23 rfl)) (of_decide_eq_true (PH.fact h3 24 rfl)) (of_decide_eq_true (PH.fact h4 0 rfl)) (of_decide_eq_true (PH.fact h4 1 rfl)) (of_decide_eq_true (PH.fact h4 2 rfl)) (of_decide_eq_true (PH.fact h4 3 rfl)) (of_decide_eq_true (PH.fact h4 4 rfl)) (of_decide_eq_true (PH.fact h4 5 rfl)) (of_decide_eq_true (PH.fact h4 6 rfl)) (of_decide_eq_true (PH.fact h4 7 rfl)) (of_decide_eq_true (PH.fact h4 8 rfl)) (of_decide_eq_true (PH.fact h4 9 rfl)) (of_decide_eq_true (PH.fact h4 10 rfl)) (of_decide_eq_true (PH.fact h4 11 rfl)) (of_decide_eq_true (PH.fact h4 12 rfl)) (of_decide_eq_true (PH.fact h4 13 rfl)) (of_decide_eq_true (PH.fact h4 14 rfl)) (of_decide_eq_true (PH.fact h4 15 rfl)) (of_decide_eq_true (PH.fact h4 16 rfl)) (of_decide_eq_true (PH.fact h4 17 rfl)) (of_decide_eq_true (PH.fact h4 18 rfl)) (of_decide_eq_true (PH.fact h4 19 rfl)) (of_decide_eq_true (PH.fact h4 20 rfl)) (of_decide_eq_true (PH.fact h4 21 rfl)) (of_decide_eq_true (PH.fact h4 22 rfl)) (of_decide_eq_true (PH.fact h4 23 rfl)) (of_decide_eq_true (PH.fact h4 24 rfl)) (of_decide_eq_true (PH.fact h5 0 rfl)) (of_decide_eq_true (PH.fact h5 1 rfl)) (of_decide_eq_true (PH.fact h5 2 rfl)) (of_decide_eq_true (PH.fact h5 3 rfl)) (of_decide_eq_true (PH.fact h5 4 rfl)) (of_decide_eq_true (PH.fact h5 5 rfl)) (of_decide_eq_true (PH.fact h5 6 rfl)) (of_decide_eq_true (PH.fact h5 7 rfl)) (of_decide_eq_true (PH.fact h5 8 rfl)) (of_decide_eq_true (PH.fact h5 9 rfl)) (of_decide_eq_true (PH.fact h5 10 rfl)) (of_decide_eq_true (PH.fact h5 11 rfl)) (of_decide_eq_true (PH.fact h5 12 rfl)) (of_decide_eq_true (PH.fact h5 13 rfl)) (of_decide_eq_true (PH.fact h5 14 rfl)) (of_decide_eq_true (PH.fact h5 15 rfl)) (of_decide_eq_true (PH.fact h5 16 rfl)) (of_decide_eq_true (PH.fact h5 17 rfl)) (of_decide_eq_true (PH.fact h5 18 rfl)) (of_decide_eq_true (PH.fact h5 19 rfl)) (of_decide_eq_true (PH.fact h5 20 rfl)) (of_decide_eq_true (PH.fact h5 21 rfl)) (of_decide_eq_true (PH.fact h5 22 rfl)) (of_decide_eq_true (PH.fact h5 23 rfl)) (of_decide_eq_true (PH.fact h5 24 rfl)) (of_decide_eq_true (PH.fact h6 0 rfl)) (of_decide_eq_true (PH.fact h6 1 rfl)) (of_decide_eq_true (PH.fact h6 2 rfl)) (of_decide_eq_true (PH.fact h6 3 rfl)) (of_decide_eq_true (PH.fact h6 4 rfl)) (of_decide_eq_true (PH.fact h6 5 rfl)) (of_decide_eq_true (PH.fact h6 6 rfl)) (of_decide_eq_true (PH.fact h6 7 rfl)) (of_decide_eq_true (PH.fact h6 8 rfl)) (of_decide_eq_true (PH.fact h6 9 rfl)) (of_decide_eq_true (PH.fact h6 10 rfl)) (of_decide_eq_true (PH.fact h6 11 rfl)) (of_decide_eq_true (PH.fact h6 12 rfl)) (of_decide_eq_true (PH.fact h6 13 rfl)) (of_decide_eq_true (PH.fact h6 14 rfl)) (of_decide_eq_true (PH.fact h6 15 rfl)) (of_decide_eq_true (PH.fact h6 16 rfl)) (of_decide_eq_true (PH.fact h6 17 rfl)) (of_decide_eq_true (PH.fact h6 18 rfl)) (of_decide_eq_true (PH.fact h6 19 rfl)) (of_decide_eq_true (PH.fact h6 20 rfl)) (of_decide_eq_true (PH.fact h6 21 rfl)) (of_decide_eq_true (PH.fact h6 22 rfl)) (of_decide_eq_true (PH.fact h6 23 rfl)) (of_decide_eq_true (PH.fact h6 24 rfl)) (of_decide_eq_true (PH.fact h7 0 rfl)) (of_decide_eq_true (PH.fact h7 1 rfl)) (of_decide_eq_true (PH.fact h7 2 rfl)) (of_decide_eq_true (PH.fact h7 3 rfl)) (of_decide_eq_true (PH.fact h7 4 rfl)) (of_decide_eq_true (PH.fact h7 5 rfl)) (of_decide_eq_true (PH.fact h7 6 rfl)) (of_decide_eq_true (PH.fact h7 7 rfl)) (of_decide_eq_true (PH.fact h7 8 rfl)) (of_decide_eq_true (PH.fact h7 9 rfl)) (of_decide_eq_true (PH.fact h7 10 rfl)) (of_decide_eq_true (PH.fact h7 11 rfl)) (of_decide_eq_true (PH.fact h7 12 rfl)) (of_decide_eq_true (PH.fact h7 13 rfl)) (of_decide_eq_true (PH.fact h7 14 rfl)) (of_decide_eq_true (PH.fact h7 15 rfl)) (of_decide_eq_true (PH.fact h7 16 rfl)) (of_decide_eq_true (PH.fact h7 17 rfl)) (of_decide_eq_true (PH.fact h7 18 rfl)) (of_decide_eq_true (PH.fact h7 19 rfl)) (of_decide_eq_true (PH.fact h7 20 rfl)) (of_decide_eq_true (PH.fact h7 21 rfl)) (of_decide_eq_true (PH.fact h7 22 rfl)) (of_decide_eq_true (PH.fact h7 23 rfl)) (of_decide_eq_true (PH.fact h7 24 rfl)) (of_decide_eq_true (PH.fact h8 0 rfl)) (of_decide_eq_true (PH.fact h8 1 rfl)) (of_decide_eq_true (PH.fact h8 2 rfl)) (of_decide_eq_true (PH.fact h8 3 rfl)) (of_decide_eq_true (PH.fact h8 4 rfl)) (of_decide_eq_true (PH.fact h8 5 rfl)) (of_decide_eq_true (PH.fact h8 6 rfl)) (of_decide_eq_true (PH.fact h8 7 rfl)) (of_decide_eq_true (PH.fact h8 8 rfl)) (of_decide_eq_true (PH.fact h8 9 rfl)) (of_decide_eq_true (PH.fact h8 10 rfl)) (of_decide_eq_true (PH.fact h8 11 rfl)) (of_decide_eq_true (PH.fact h8 12 rfl)) (of_decide_eq_true (PH.fact h8 13 rfl)) (of_decide_eq_true (PH.fact h8 14 rfl)) (of_decide_eq_true (PH.fact h8 15 rfl)) (of_decide_eq_true (PH.fact h8 16 rfl)) (of_decide_eq_true (PH.fact h8 17 rfl)) (of_decide_eq_true (PH.fact h8 18 rfl)) (of_decide_eq_true (PH.fact h8 19 rfl)) (of_decide_eq_true (PH.fact h8 20 rfl)) (of_decide_eq_true (PH.fact h8 21 rfl)) (of_decide_eq_true (PH.fact h8 22 rfl)) (of_decide_eq_true (PH.fact h8 23 rfl)) (of_decide_eq_true (PH.fact h8 24 rfl)) (of_decide_eq_true (PH.fact h9 0 rfl)) (of_decide_eq_true (PH.fact h9 1 rfl)) (of_decide_eq_true (PH.fact h9 2 rfl)) (of_decide_eq_true (PH.fact h9 3 rfl)) (of_decide_eq_true (PH.fact h9 4 rfl)) (of_decide_eq_true (PH.fact h9 5 rfl)) (of_decide_eq_true (PH.fact h9 6 rfl)) (of_decide_eq_true (PH.fact h9 7 rfl)) (of_decide_eq_true (PH.fact h9 8 rfl)) (of_decide_eq_true (PH.fact h9 9 rfl)) (of_decide_eq_true (PH.fact h9 10 rfl)) (of_decide_eq_true (PH.fact h9 11 rfl)) (of_decide_eq_true (PH.fact h9 12 rfl)) (of_decide_eq_true (PH.fact h9 13 rfl)) (of_decide_eq_true (PH.fact h9 14 rfl)) (of_decide_eq_true (PH.fact h9 15 rfl)) (of_decide_eq_true (PH.fact h9 16 rfl)) (of_decide_eq_true (PH.fact h9 17 rfl)) (of_decide_eq_true (PH.fact h9 18 rfl)) (of_decide_eq_true (PH.fact h9 19 rfl)) (of_decide_eq_true (PH.fact h9 20 rfl)) (of_decide_eq_true (PH.fact h9 21 rfl)) (of_decide_eq_true (PH.fact h9 22 rfl)) (of_decide_eq_true (PH.fact h9 23 rfl)) (of_decide_eq_true (PH.fact h9 24 rfl)) (of_decide_eq_true (PH.fact h10 0 rfl)) ml0 mc0 mk0 (of_decide_eq_true (PH.fact h10 1 rfl)) ml1 mc1 mk1 (of_decide_eq_true (PH.fact h10 2 rfl)) ml2 mc2 mk2 (of_decide_eq_true (PH.fact h10 3 rfl)) ml3 mc3 mk3 (of_decide_eq_true (PH.fact h10 4 rfl)) ml4 mc4 mk4 (of_decide_eq_true (PH.fact h10 5 rfl)) ml5 mc5 mk5 (of_decide_eq_true (PH.fact h10 6 rfl)) ml6 mc6 mk6 (of_decide_eq_true (PH.fact h10 7 rfl)) ml7 mc7 mk7 (of_decide_eq_true (PH.fact h10 8 rfl)) ml8 mc8 mk8 (of_decide_eq_true (PH.fact h10 9 rfl)) ml9 mc9 mk9 (of_decide_eq_true (PH.fact h10 10 rfl)) ml10 mc10 mk10 (of_decide_eq_true (PH.fact h10 11 rfl)) ml11 mc11 mk11 (of_decide_eq_true (PH.fact h10 12 rfl)) ml12 mc12 mk12 (of_decide_eq_true (PH.fact h10 13 rfl))
def lo0 : List Str := ["_wall", "LeftError", "NoPrime", "NoFraction", "NoPlace", "NoFigures", "NoText", "Unlike", "NoQuotient", "NoPower", "TooFew", "NoSize", "NoPolynomial", "NoDepth", "NoRoot", "NotNear", "is_whole", "divisor", "fraction", "Term", "Part", "Pair", "Sum", "Difference", "Product", "Quotient", "Power", "FIGURES", "MOST_FIGURES_texts", "number_of"]
def lo1 : List Str := ["MOST_DEEP", "MOST_WEIGHT", "MOST_FIGURES_reading", "whole_of", "part_of", "word_at", "of_two", "read_deed", "read_at", "read_term", "_law_cell_at", "_law_text", "_law_spoiled", "_law_border", "_law_is_whole", "_law_part", "_law_word", "_law_shut", "_law_due", "_law_others", "_law_refused"]
def loA : List Str := lo0 ++ lo1
abbrev RR : PySem.W.OpenRow := PySem.W.OpenLaw.row PySem.Challenge.rw_leftnumbers_k92_terms_refused
theorem run (w : World) : HandSHeadRun.RunEq RR (PySem.W.view RR.prog [58]) (PH.hookT 1 tsA fnA) (PH.obT 1 tsA fnA) 20000 loA w := by
  intro os
  kernel_rfl
end K92
open PySem PySem.W PySem.Calls PyProof.Rows
set_option maxHeartbeats 0 in
theorem PySem.Challenge.cw_leftnumbers_k92_terms_refused_holds : PySem.Challenge.rw_leftnumbers_k92_terms_refused.Holds := by
  w_on; o_law
  refine HandSHeadRun.head_any (r := OpenLaw.row PySem.Challenge.rw_leftnumbers_k92_terms_refused) (q := view (OpenLaw.row PySem.Challenge.rw_leftnumbers_k92_terms_refused).prog [58]) (H := PH.hookT 1 K92.tsA K92.fnA) (ob := PH.obT 1 K92.tsA K92.fnA) (M := 20000) (loose := K92.loA) (d := HandSHeadRun.topDef (OpenLaw.row PySem.Challenge.rw_leftnumbers_k92_terms_refused).prog 58) (kwd := []) (PH.obT_eq (n := 1)) (by kernel_rfl) (fun s => by kernel_rfl) K92.run (by kernel_rfl) (by kernel_rfl) (by kernel_rfl) (by rfl) (by first | assumption | decide +kernel) (by decide +kernel) ⟨rfl, rfl, rfl, rfl, rfl, by decide +kernel⟩ ?hw ?hc
  case hw => w_witness2
  case hc =>
    refine PH.walk_ofEB (l := PySem.Challenge.rw_leftnumbers_k92_terms_refused) (n := 63) (k := 32) (x := "_law_script") (CX := fun w => L2N.CX PySem.Challenge.rw_leftnumbers_k92_terms_refused.prog w) rfl (by decide) (by kernel_rfl) ⟨rfl, by decide, by decide⟩ ?F (fun _ _ _ _ _ h => PL.cx_none h)
    intro w mg fa h Y G hmg0
    obtain ⟨K, KX, c⟩ := Y
    have hmg : mg ("law" : PySem.Str) = some (.ref fa) := by
      have e : (HandSHeadRun.topDef (OpenLaw.row PySem.Challenge.rw_leftnumbers_k92_terms_refused).prog 58).name = ("law" : PySem.Str) := by kernel_rfl
      rw [← e]
      exact hmg0
    obtain ⟨fd, hb, hF⟩ := K92.facts (l := PySem.Challenge.rw_leftnumbers_k92_terms_refused) (w := w) KX G hmg c
    exact ⟨K, fd, PL.spLaw K, KX, hb, fun H a ns hl hB hO hS => ⟨a, ns, rfl, hS, hO, hl, hB, fun _ _ e => e⟩, hF⟩
