import PyProof.Rows.All
import Wide.All
import OpenK.AllK
import Wide.FinOn
import HandS.ForMost
import HandS.ForExc
import HandS.Wide
import HandS.WideBits
import HandS.WideMore
import HandS.IsInst
import HandS.CallSlots
import HandS.Rev
import HandS.TupAny
import HandS.Flow
import HandS.Defaults
import HandS.EndBits
import HandS.HotCalls
import HandS.ExcIs
import HandS.SuiteRaise
import PyProof.LongRange
import HandS.Deep
import HandS.Flt
import HandS.TryOnly
import HandS.Comp
import HandS.Conv
import HandS.SortInts
import HandS.TupLe
import KE.SortData
import KE.DataCmp
import HandS.TupMul
import HandS.Text
import HandS.StrMore
import HandS.TryElse
import KE.KStateDown
import HandS.Head0
import HandS.Head1
import HandS.Head2
import HandS.HeadEnd
import HandS.HeadHook1
import HandS.HeadHook2
import PyProof.StrOps2
import KE.GoesRaise
import PySem.Challenge.RW_leftnumbers_k18_texts_refused
set_option Elab.async false
set_option linter.all false
set_option maxRecDepth 100000
set_option autoImplicit false
namespace PL
open PySem PySem.Spec L2
open PyProof.Rows hiding St
/-- plain values -/
inductive PV where
  | non | bl (b : Bool) | int (i : Int) | str (s : Str)
  | tup (l : List PV) | lst (l : List PV) | frz (l : List PV) | dct
  | dt (l : List ((Int × Int) × Int)) | obj (C : Addr) (ns : List Str) (fs : List PV)
/-- what an evaluation comes to -/
inductive R (α : Type) where
  | ok (a : α) | exc (c : Str) | stuck
def R.bind {α β : Type} (x : R α) (k : α → R β) : R β := match x with
  | .ok a => k a | .exc c => .exc c | .stuck => .stuck
theorem R.bind_ok {α β : Type} (a : α) (k : α → R β) : (R.ok a).bind k = k a := rfl
/-- a slot: nothing yet; a value that may be shared; a list that this def made and nobody else holds -/
inductive Slot where
  | un | val (p : PV) | own (l : List PV) | ex (a : Addr) | dd (a : Addr) (l : List ((Int × Int) × Int))
abbrev Rho := List Slot
/-- a written tuple, not a pair -/
def KT (K : PySem.W.Frag) (a : Addr) (xs : List V) : Prop :=
  ∃ (o : Obj) (its : Array Value) (n : Nat), K.lookup a = some o ∧ o.cls = .type "tuple" ∧ o.data = .seq its n ∧ its.size ≤ sizeLine ∧ Vals xs its.toList ∧ xs.length ≠ 2
theorem KT.sq {K : PySem.W.Frag} {H : Hp} {a : Addr} {xs : List V} (h : KT K a xs) : SqT K H a xs := by
  obtain ⟨o, its, n, h1, h2, h3, h4, h5, _⟩ := h
  exact .inr ⟨o, its, n, h1, h2, h3, h4, h5⟩
/-- a dict by pairs of whole numbers, as the heap has it -/
def encD (l : List ((Int × Int) × Int)) : List (List L2.Key × V) := l.map fun e => ([.inl e.1.1, .inl e.1.2], V.int e.2)
/-- a class of one's own whose instances are plain: what is known of it -/
structure ObjC (K : PySem.W.Frag) (C : Addr) : Prop where
  cl : Cls K C
  ha : PySem.W.findIn K (.ref C) "__class__" = some (some (.builtin "object.__class__"))
  hn : PySem.W.specialIn K (.builtin "object.__class__") "__get__" = some (some (.builtin "getset_descriptor.__get__"))
  ht : PySem.W.takesIn K (.builtin "object.__class__") = some true
  hm : PySem.W.mroIn K C (.type "object") = some true
  kit : ∀ n ∈ (["int", "bool", "str", "tuple", "list", "dict"] : List String), PySem.W.kitOne K (.ref C) (.type n) = some false
  na : ∀ f ∈ (["part", "one", "other", "n"] : List Str), PySem.W.findIn K (.ref C) f = some none
mutual
inductive Rep (K : PySem.W.Frag) (H : Hp) (O : Addr → Prop) : V → PV → Prop
  | non : Rep K H O .non .non
  | bl (b : Bool) : Rep K H O (.bl b) (.bl b)
  | int (i : Int) : Rep K H O (.int i) (.int i)
  | str (x : Str) : Rep K H O (.str x) (.str x)
  | lst {a : Addr} {xs : List V} {ps : List PV} : H a = some (.lst xs) → ¬ O a → Reps K H O xs ps → Rep K H O (.ref a) (.lst ps)
  | tup {a : Addr} {xs : List V} {ps : List PV} : (H a = some (.tup xs) ∧ ¬ O a ∨ KT K a xs) → Reps K H O xs ps → Rep K H O (.ref a) (.tup ps)
  | frz {a : Addr} {ns : List Int} : ((∃ o, H a = some (.frz o (.lst (ns.map V.int)))) ∧ ¬ O a ∨ ((∀ H', SqL K H' a (ns.map V.int)))) → Rep K H O (.ref a) (.frz (ns.map PV.int))
  | dct {a : Addr} {kvs : List (L2.Key × V)} : H a = some (.dK kvs) → ¬ O a → Rep K H O (.ref a) .dct
  | dt {a : Addr} {l : List ((Int × Int) × Int)} : H a = some (.dT (encD l)) → ¬ O a → Rep K H O (.ref a) (.dt l)
  | obj {a C dx : Addr} {fs : List (Str × V)} {ns : List Str} {ps : List PV} : H a = some (.ins C dx fs) → ¬ O a → fs.map (·.1) = ns → ObjC K C → Reps K H O (fs.map (·.2)) ps → Rep K H O (.ref a) (.obj C ns ps)
inductive Reps (K : PySem.W.Frag) (H : Hp) (O : Addr → Prop) : List V → List PV → Prop
  | nil : Reps K H O [] []
  | cons {v : V} {vs : List V} {p : PV} {ps : List PV} : Rep K H O v p → Reps K H O vs ps → Reps K H O (v :: vs) (p :: ps)
end
section
variable {K : PySem.W.Frag} {H H' : Hp} {O O' : Addr → Prop}
mutual
theorem Rep.mono (hk : ∀ a o, H a = some o → ¬ O a → H' a = some o ∧ ¬ O' a) : ∀ {v : V} {p : PV}, Rep K H O v p → Rep K H' O' v p
  | _, _, .non => .non
  | _, _, .bl b => .bl b
  | _, _, .int i => .int i
  | _, _, .str x => .str x
  | _, _, .lst h n r => .lst (hk _ _ h n).1 (hk _ _ h n).2 (Reps.mono hk r)
  | _, _, .tup (.inl ⟨h, n⟩) r => .tup (.inl ⟨(hk _ _ h n).1, (hk _ _ h n).2⟩) (Reps.mono hk r)
  | _, _, .tup (.inr h) r => .tup (.inr h) (Reps.mono hk r)
  | _, _, .frz (.inl ⟨⟨o, h⟩, n⟩) => .frz (.inl ⟨⟨o, (hk _ _ h n).1⟩, (hk _ _ h n).2⟩)
  | _, _, .frz (.inr h) => .frz (.inr h)
  | _, _, .dct h n => .dct (hk _ _ h n).1 (hk _ _ h n).2
  | _, _, .dt h n => .dt (hk _ _ h n).1 (hk _ _ h n).2
  | _, _, .obj h n e c r => .obj (hk _ _ h n).1 (hk _ _ h n).2 e c (Reps.mono hk r)
theorem Reps.mono (hk : ∀ a o, H a = some o → ¬ O a → H' a = some o ∧ ¬ O' a) : ∀ {v : List V} {p : List PV}, Reps K H O v p → Reps K H' O' v p
  | _, _, .nil => .nil
  | _, _, .cons h r => .cons (Rep.mono hk h) (Reps.mono hk r)
end
theorem Rep.same {v : V} {p : PV} (s : Same H H') (r : Rep K H O v p) : Rep K H' O v p := r.mono fun a o h n => ⟨s a o h, n⟩
theorem Reps.same {v : List V} {p : List PV} (s : Same H H') (r : Reps K H O v p) : Reps K H' O v p := r.mono fun a o h n => ⟨s a o h, n⟩
theorem Rep.less {v : V} {p : PV} (s : ∀ a, O' a → O a) (r : Rep K H O v p) : Rep K H O' v p := r.mono fun a o h n => ⟨h, fun z => n (s a z)⟩
theorem Reps.less {v : List V} {p : List PV} (s : ∀ a, O' a → O a) (r : Reps K H O v p) : Reps K H O' v p := r.mono fun a o h n => ⟨h, fun z => n (s a z)⟩
theorem Reps.length : ∀ {vs : List V} {ps : List PV}, Reps K H O vs ps → vs.length = ps.length
  | _, _, .nil => rfl
  | _, _, .cons _ r => by rw [List.length_cons, List.length_cons, Reps.length r]
theorem Reps.get : ∀ {vs : List V} {ps : List PV} {i : Nat} {p : PV}, Reps K H O vs ps → ps[i]? = some p → ∃ v, vs[i]? = some v ∧ Rep K H O v p
  | _, _, 0, _, .cons h _, e => ⟨_, rfl, by simp at e; exact e ▸ h⟩
  | _, _, i + 1, p, .cons _ r, e => by
    obtain ⟨v, h1, h2⟩ := Reps.get (i := i) (p := p) r (by simpa using e)
    exact ⟨v, by simpa using h1, h2⟩
theorem Reps.get' : ∀ {vs : List V} {ps : List PV} {i : Nat} {v : V}, Reps K H O vs ps → vs[i]? = some v → ∃ p, ps[i]? = some p ∧ Rep K H O v p
  | _, _, 0, _, .cons h _, e => ⟨_, rfl, by simp at e; exact e ▸ h⟩
  | _, _, i + 1, v, .cons _ r, e => by
    obtain ⟨p, h1, h2⟩ := Reps.get' (i := i) (v := v) r (by simpa using e)
    exact ⟨p, by simpa using h1, h2⟩
theorem Reps.append : ∀ {vs ws : List V} {ps qs : List PV}, Reps K H O vs ps → Reps K H O ws qs → Reps K H O (vs ++ ws) (ps ++ qs)
  | _, _, _, _, .nil, s => s
  | _, _, _, _, .cons h r, s => .cons h (Reps.append r s)
theorem Reps.take : ∀ {vs : List V} {ps : List PV} (n : Nat), Reps K H O vs ps → Reps K H O (vs.take n) (ps.take n)
  | _, _, 0, _ => .nil
  | _, _, _ + 1, .nil => .nil
  | _, _, n + 1, .cons h r => .cons h (Reps.take n r)
theorem Reps.drop : ∀ {vs : List V} {ps : List PV} (n : Nat), Reps K H O vs ps → Reps K H O (vs.drop n) (ps.drop n)
  | _, _, 0, r => r
  | _, _, _ + 1, .nil => .nil
  | _, _, n + 1, .cons _ r => Reps.drop n r
theorem Reps.set {v : V} {p : PV} (h : Rep K H O v p) : ∀ {vs : List V} {ps : List PV} (n : Nat), Reps K H O vs ps → Reps K H O (vs.set n v) (ps.set n p)
  | _, _, _, .nil => .nil
  | _, _, 0, .cons _ r => .cons h r
  | _, _, n + 1, .cons q r => .cons q (Reps.set h n r)
theorem Reps.reverse {vs : List V} {ps : List PV} (h : Reps K H O vs ps) : Reps K H O vs.reverse ps.reverse := by
  induction vs generalizing ps with
  | nil => cases h; exact .nil
  | cons v vs ih => cases h with
    | cons a r => rw [List.reverse_cons, List.reverse_cons]; exact (ih r).append (.cons a .nil)
theorem Reps.ofInts : ∀ (ns : List Int), Reps K H O (ns.map V.int) (ns.map PV.int)
  | [] => .nil
  | n :: ns => .cons (.int n) (Reps.ofInts ns)
theorem Reps.bls : ∀ {ns : List Bool} {vs : List V}, Reps K H O vs (ns.map PV.bl) → vs = ns.map V.bl
  | [], _, .nil => rfl
  | n :: ns, _, .cons h r => by cases h; rw [Reps.bls r]; rfl
theorem Reps.strs : ∀ {ns : List Str} {vs : List V}, Reps K H O vs (ns.map PV.str) → vs = ns.map V.str
  | [], _, .nil => rfl
  | n :: ns, _, .cons h r => by cases h; rw [Reps.strs r]; rfl
theorem Reps.ofStrs : ∀ (ns : List Str), Reps K H O (ns.map V.str) (ns.map PV.str)
  | [] => .nil
  | n :: ns => .cons (.str n) (Reps.ofStrs ns)
end
/-- the addresses that nobody else may hold: those from outside, those of the slots -/
def OO (O0 : Addr → Prop) (σ : St) (ρ : Rho) : Addr → Prop := fun a => O0 a ∨ ∃ (i : Nat) (ps : List PV), ρ[i]? = some (.own ps) ∧ σ[i]? = some (some (.ref a))
structure StR (K : PySem.W.Frag) (H0 : Hp) (O0 : Addr → Prop) (H : Hp) (σ : St) (ρ : Rho) : Prop where
  len : σ.length = ρ.length
  same : Same H0 H
  all0 : ∀ a, O0 a → H a ≠ none
  own : ∀ (i : Nat) (ps : List PV), ρ[i]? = some (.own ps) → ∃ (a : Addr) (vs : List V), σ[i]? = some (some (.ref a)) ∧ H a = some (.lst vs) ∧ H0 a = none ∧ ¬ O0 a ∧ Reps K H (OO O0 σ ρ) vs ps
  dis : ∀ (i j : Nat) (a : Addr) (ps qs : List PV), ρ[i]? = some (.own ps) → ρ[j]? = some (.own qs) → σ[i]? = some (some (.ref a)) → σ[j]? = some (some (.ref a)) → i = j
  val : ∀ (i : Nat) (p : PV), ρ[i]? = some (.val p) → ∃ (v : V), σ[i]? = some (some v) ∧ Rep K H (OO O0 σ ρ) v p
  exs : ∀ (i : Nat) (a : Addr), ρ[i]? = some (.ex a) → σ[i]? = some (some (.ref a))
  dds : ∀ (i : Nat) (a : Addr) (l : List ((Int × Int) × Int)), ρ[i]? = some (.dd a l) → σ[i]? = some (some (.ref a)) ∧ H a = some (.dT (encD l)) ∧ O0 a ∧ H0 a = none ∧ (∀ (j : Nat) (l' : List ((Int × Int) × Int)), ρ[j]? = some (.dd a l') → j = i) ∧ ∀ (b : Addr) (xs : List V), O0 b → H b ≠ some (.tup xs)
def DdOk (H0 : Hp) (O0 : Addr → Prop) (H : Hp) (σ : St) (ρ : Rho) : Prop := ∀ (i : Nat) (a : Addr) (l : List ((Int × Int) × Int)), ρ[i]? = some (.dd a l) → σ[i]? = some (some (.ref a)) ∧ H a = some (.dT (encD l)) ∧ O0 a ∧ H0 a = none ∧ (∀ (j : Nat) (l' : List ((Int × Int) × Int)), ρ[j]? = some (.dd a l') → j = i) ∧ ∀ (b : Addr) (xs : List V), O0 b → H b ≠ some (.tup xs)
theorem dds_later {H0 H H' : Hp} {O0 : Addr → Prop} {σ : St} {ρ : Rho} (h : DdOk H0 O0 H σ ρ) (k : ∀ a l, H a = some (.dT l) → H' a = some (.dT l)) (kt : ∀ b xs, O0 b → H' b = some (.tup xs) → H b = some (.tup xs)) : DdOk H0 O0 H' σ ρ := fun i a l e => by
  obtain ⟨e1, e2, e3, e4, e5, e6⟩ := h i a l e
  exact ⟨e1, k _ _ e2, e3, e4, e5, fun b xs o z => e6 b xs o (kt b xs o z)⟩
theorem tup_same {O0 : Addr → Prop} {H H' : Hp} (h0 : ∀ a, O0 a → H a ≠ none) (s : Same H H') : ∀ b xs, O0 b → H' b = some (.tup xs) → H b = some (.tup xs) := fun b xs o z => by
  cases q : H b with
  | none => exact absurd q (h0 b o)
  | some u => rw [s b u q] at z; exact z
theorem dd_old {ρ : Rho} {i j : Nat} {s : Slot} {a : Addr} {l : List ((Int × Int) × Int)} (hs : ∀ a l, s ≠ .dd a l) (h : (ρ.set i s)[j]? = some (.dd a l)) : ρ[j]? = some (.dd a l) := by
  by_cases q : i = j
  · subst q
    by_cases hi : i < ρ.length
    · rw [List.getElem?_set_self hi] at h
      exact absurd (Option.some.inj h) (hs a l)
    · rw [List.getElem?_eq_none (by rw [List.length_set]; omega)] at h; cases h
  · rw [List.getElem?_set_ne q] at h
    exact h
theorem dds_set {H0 H : Hp} {O0 : Addr → Prop} {σ : St} {ρ : Rho} (h : DdOk H0 O0 H σ ρ) {i : Nat} {v : Option V} {s : Slot} (hs : ∀ a l, s ≠ .dd a l) : DdOk H0 O0 H (σ.set i v) (ρ.set i s) := fun j a l e => by
  by_cases q : i = j
  · subst q
    by_cases hi : i < ρ.length
    · rw [List.getElem?_set_self hi] at e
      exact absurd (Option.some.inj e) (hs a l)
    · rw [List.getElem?_eq_none (by rw [List.length_set]; omega)] at e; cases e
  · rw [List.getElem?_set_ne q] at e ⊢
    obtain ⟨e1, e2, e3, e4, e5, e6⟩ := h j a l e
    exact ⟨e1, e2, e3, e4, fun m l' z => e5 m l' (dd_old hs z), e6⟩
theorem dds_setR {H0 H : Hp} {O0 : Addr → Prop} {σ : St} {ρ : Rho} (h : DdOk H0 O0 H σ ρ) {i : Nat} {s : Slot} (hs : ∀ a l, s ≠ .dd a l) : DdOk H0 O0 H σ (ρ.set i s) := fun j a l e => by
  by_cases q : i = j
  · subst q
    by_cases hi : i < ρ.length
    · rw [List.getElem?_set_self hi] at e
      exact absurd (Option.some.inj e) (hs a l)
    · rw [List.getElem?_eq_none (by rw [List.length_set]; omega)] at e; cases e
  · rw [List.getElem?_set_ne q] at e
    obtain ⟨e1, e2, e3, e4, e5, e6⟩ := h j a l e
    exact ⟨e1, e2, e3, e4, fun m l' z => e5 m l' (dd_old hs z), e6⟩
theorem exs_set {σ : St} {ρ : Rho} (hl : σ.length = ρ.length) (h : ∀ (i : Nat) (a : Addr), ρ[i]? = some (.ex a) → σ[i]? = some (some (.ref a))) {i : Nat} {v : Option V} {s : Slot} (hs : ∀ a, s = .ex a → v = some (.ref a)) : ∀ (j : Nat) (a : Addr), (ρ.set i s)[j]? = some (.ex a) → (σ.set i v)[j]? = some (some (.ref a)) := fun j a e => by
  by_cases q : i = j
  · subst q
    by_cases hi : i < ρ.length
    · rw [List.getElem?_set_self hi] at e
      rw [List.getElem?_set_self (by rw [hl]; exact hi), hs a (Option.some.inj e)]
    · rw [List.getElem?_eq_none (by rw [List.length_set]; omega)] at e; cases e
  · rw [List.getElem?_set_ne q] at e ⊢
    exact h j a e
theorem exs_setR {σ : St} {ρ : Rho} (h : ∀ (i : Nat) (a : Addr), ρ[i]? = some (.ex a) → σ[i]? = some (some (.ref a))) {i : Nat} {s : Slot} (hs : ∀ a, s ≠ .ex a) : ∀ (j : Nat) (a : Addr), (ρ.set i s)[j]? = some (.ex a) → σ[j]? = some (some (.ref a)) := fun j a e => by
  by_cases q : i = j
  · subst q
    by_cases hi : i < ρ.length
    · rw [List.getElem?_set_self hi] at e
      exact absurd (Option.some.inj e) (hs a)
    · rw [List.getElem?_eq_none (by rw [List.length_set]; omega)] at e; cases e
  · rw [List.getElem?_set_ne q] at e
    exact h j a e
section
variable {K : PySem.W.Frag} {H0 H H' : Hp} {O0 : Addr → Prop} {σ : St} {ρ : Rho}
theorem StR.there (S : StR K H0 O0 H σ ρ) {a : Addr} (h : OO O0 σ ρ a) : H a ≠ none := by
  rcases h with h | ⟨i, ps, h1, h2⟩
  · exact S.all0 a h
  · obtain ⟨b, vs, e1, e2, _⟩ := S.own i ps h1
    rw [h2] at e1; cases e1
    rw [e2]; exact fun z => nomatch z
theorem StR.step (S : StR K H0 O0 H σ ρ) (s : Same H H') : StR K H0 O0 H' σ ρ :=
  ⟨S.len, S.same.trans s, fun a h z => S.all0 a h (s.free z), fun i ps h => let ⟨a, vs, e1, e2, e3, e5, e4⟩ := S.own i ps h; ⟨a, vs, e1, s _ _ e2, e3, e5, e4.same s⟩, S.dis, fun i p h => let ⟨v, e1, e2⟩ := S.val i p h; ⟨v, e1, e2.same s⟩, S.exs, dds_later S.dds (fun _ _ e => s _ _ e) (tup_same S.all0 s)⟩
theorem OO.set_val {i : Nat} {v : Option V} {s : Slot} (hs : ∀ ps, s ≠ .own ps) {a : Addr} (h : OO O0 (σ.set i v) (ρ.set i s) a) : OO O0 σ ρ a := by
  rcases h with h | ⟨j, ps, h1, h2⟩
  · exact .inl h
  · by_cases e : i = j
    · subst e
      by_cases hl : i < ρ.length
      · rw [List.getElem?_set_self hl] at h1; exact absurd (Option.some.inj h1) (hs ps)
      · rw [List.getElem?_eq_none (by rw [List.length_set]; omega)] at h1; cases h1
    · rw [List.getElem?_set_ne e] at h1 h2
      exact .inr ⟨j, ps, h1, h2⟩
/-- a slot is set to a shared value (or emptied) -/
theorem StR.set (S : StR K H0 O0 H σ ρ) {i : Nat} {v : Option V} {s : Slot} (hs : ∀ ps, s ≠ .own ps) (hv : ∀ p, s = .val p → ∃ w, v = some w ∧ Rep K H (OO O0 σ ρ) w p) (hx : ∀ a, s = .ex a → v = some (.ref a) := by intro _ z; cases z) (hd : ∀ a l, s ≠ .dd a l := by intro _ _ z; cases z) : StR K H0 O0 H (σ.set i v) (ρ.set i s) := by
  have less : ∀ a, OO O0 (σ.set i v) (ρ.set i s) a → OO O0 σ ρ a := fun a h => OO.set_val hs h
  refine ⟨by rw [List.length_set, List.length_set, S.len], S.same, S.all0, fun j ps h => ?_, fun j k a ps qs h1 h2 h3 h4 => ?_, fun j p h => ?_, exs_set S.len S.exs hx, dds_set S.dds hd⟩
  · by_cases e : i = j
    · subst e
      by_cases hl : i < ρ.length
      · rw [List.getElem?_set_self hl] at h; exact absurd (Option.some.inj h) (hs ps)
      · rw [List.getElem?_eq_none (by rw [List.length_set]; omega)] at h; cases h
    · rw [List.getElem?_set_ne e] at h
      obtain ⟨a, vs, e1, e2, e3, e5, e4⟩ := S.own j ps h
      exact ⟨a, vs, by rw [List.getElem?_set_ne e]; exact e1, e2, e3, e5, e4.less less⟩
  · have go : ∀ {j : Nat} {ps : List PV}, (ρ.set i s)[j]? = some (.own ps) → i ≠ j := fun {j ps} h e => by
      subst e
      by_cases hl : i < ρ.length
      · rw [List.getElem?_set_self hl] at h; exact absurd (Option.some.inj h) (hs ps)
      · rw [List.getElem?_eq_none (by rw [List.length_set]; omega)] at h; cases h
    have e1 := go h1
    have e2 := go h2
    rw [List.getElem?_set_ne e1] at h1 h3
    rw [List.getElem?_set_ne e2] at h2 h4
    exact S.dis j k a ps qs h1 h2 h3 h4
  · by_cases e : i = j
    · subst e
      by_cases hl : i < ρ.length
      · rw [List.getElem?_set_self hl] at h
        obtain ⟨w, e1, e2⟩ := hv p (Option.some.inj h)
        exact ⟨w, by rw [List.getElem?_set_self (by rw [S.len]; exact hl), e1], e2.less less⟩
      · rw [List.getElem?_eq_none (by rw [List.length_set]; omega)] at h; cases h
    · rw [List.getElem?_set_ne e] at h
      obtain ⟨w, e1, e2⟩ := S.val j p h
      exact ⟨w, by rw [List.getElem?_set_ne e]; exact e1, e2.less less⟩
/-- a slot is set to a list that is new -/
theorem StR.setOwn (S : StR K H0 O0 H σ ρ) (s : Same H H') {i : Nat} {a : Addr} {vs : List V} {ps : List PV} (hn : H a = none) (ha : H' a = some (.lst vs)) (hr : Reps K H' (fun b => OO O0 σ ρ b ∨ b = a) vs ps) :
    StR K H0 O0 H' (σ.set i (some (.ref a))) (ρ.set i (.own ps)) := by
  have less : ∀ b, OO O0 (σ.set i (some (.ref a))) (ρ.set i (.own ps)) b → OO O0 σ ρ b ∨ b = a := fun b h => by
    rcases h with h | ⟨j, qs, h1, h2⟩
    · exact .inl (.inl h)
    · by_cases e : i = j
      · subst e
        by_cases hl : i < σ.length
        · rw [List.getElem?_set_self hl] at h2; cases h2; exact .inr rfl
        · rw [List.getElem?_eq_none (by rw [List.length_set]; omega)] at h2; cases h2
      · rw [List.getElem?_set_ne e] at h1 h2
        exact .inl (.inr ⟨j, qs, h1, h2⟩)
  have h0 : H0 a = none := S.same.free hn
  have nota : ∀ {b : Addr} {o : HO}, H b = some o → b ≠ a := fun hb z => by rw [z, hn] at hb; cases hb
  have keep : ∀ {v : V} {p : PV}, Rep K H (OO O0 σ ρ) v p → Rep K H' (OO O0 (σ.set i (some (.ref a))) (ρ.set i (.own ps))) v p := fun r => r.mono fun b o hb nb => ⟨s b o hb, fun z => (less b z).elim nb (nota hb)⟩
  have keeps : ∀ {v : List V} {p : List PV}, Reps K H (OO O0 σ ρ) v p → Reps K H' (OO O0 (σ.set i (some (.ref a))) (ρ.set i (.own ps))) v p := fun r => r.mono fun b o hb nb => ⟨s b o hb, fun z => (less b z).elim nb (nota hb)⟩
  refine ⟨by rw [List.length_set, List.length_set, S.len], S.same.trans s, fun a h z => S.all0 a h (s.free z), fun j qs h => ?_, fun j k b qs rs h1 h2 h3 h4 => ?_, fun j p h => ?_, exs_set S.len S.exs fun _ z => (nomatch z), dds_set (dds_later S.dds (fun _ _ e => s _ _ e) (tup_same S.all0 s)) fun _ _ z => (nomatch z)⟩
  · by_cases e : i = j
    · subst e
      by_cases hl : i < ρ.length
      · rw [List.getElem?_set_self hl] at h; cases h
        exact ⟨a, vs, by rw [List.getElem?_set_self (by rw [S.len]; exact hl)], ha, h0, fun z => S.all0 a z hn, hr.less less⟩
      · rw [List.getElem?_eq_none (by rw [List.length_set]; omega)] at h; cases h
    · rw [List.getElem?_set_ne e] at h
      obtain ⟨b, ws, e1, e2, e3, e5, e4⟩ := S.own j qs h
      exact ⟨b, ws, by rw [List.getElem?_set_ne e]; exact e1, s _ _ e2, e3, e5, keeps e4⟩
  · have other : ∀ {j : Nat} {qs : List PV} {b : Addr}, i ≠ j → (ρ.set i (.own ps))[j]? = some (.own qs) → (σ.set i (some (.ref a)))[j]? = some (some (.ref b)) → b ≠ a := fun {j qs b} e h1 h3 z => by
      rw [List.getElem?_set_ne e] at h1 h3
      obtain ⟨c, ws, e1, e2, _⟩ := S.own j qs h1
      rw [h3] at e1; cases e1
      exact nota e2 z
    have self : ∀ {j : Nat} {b : Addr}, i = j → (σ.set i (some (.ref a)))[j]? = some (some (.ref b)) → b = a := fun {j b} e h3 => by
      subst e
      by_cases hl : i < σ.length
      · rw [List.getElem?_set_self hl] at h3; cases h3; rfl
      · rw [List.getElem?_eq_none (by rw [List.length_set]; omega)] at h3; cases h3
    by_cases e1 : i = j
    · by_cases e2 : i = k
      · exact e1.symm.trans e2
      · exact absurd (self e1 h3) (other e2 h2 h4)
    · by_cases e2 : i = k
      · exact absurd (self e2 h4) (other e1 h1 h3)
      · rw [List.getElem?_set_ne e1] at h1 h3
        rw [List.getElem?_set_ne e2] at h2 h4
        exact S.dis j k b qs rs h1 h2 h3 h4
  · by_cases e : i = j
    · subst e
      by_cases hl : i < ρ.length
      · rw [List.getElem?_set_self hl] at h; cases h
      · rw [List.getElem?_eq_none (by rw [List.length_set]; omega)] at h; cases h
    · rw [List.getElem?_set_ne e] at h
      obtain ⟨w, e1, e2⟩ := S.val j p h
      exact ⟨w, by rw [List.getElem?_set_ne e]; exact e1, keep e2⟩
/-- an owned list is changed -/
theorem StR.write (S : StR K H0 O0 H σ ρ) {i : Nat} {a : Addr} {ps qs : List PV} {ws : List V} (h1 : ρ[i]? = some (.own ps)) (h2 : σ[i]? = some (some (.ref a))) (hr : Reps K H (OO O0 σ ρ) ws qs) :
    StR K H0 O0 (upd H a (.lst ws)) σ (ρ.set i (.own qs)) := by
  have hi : i < ρ.length := (List.getElem?_eq_some_iff.mp h1).1
  have oeq : ∀ b, OO O0 σ (ρ.set i (.own qs)) b ↔ OO O0 σ ρ b := fun b => by
    constructor
    · rintro (h | ⟨j, rs, e1, e2⟩)
      · exact .inl h
      · by_cases e : i = j
        · subst e; exact .inr ⟨i, ps, h1, e2⟩
        · rw [List.getElem?_set_ne e] at e1; exact .inr ⟨j, rs, e1, e2⟩
    · rintro (h | ⟨j, rs, e1, e2⟩)
      · exact .inl h
      · by_cases e : i = j
        · subst e; exact .inr ⟨i, qs, List.getElem?_set_self hi, e2⟩
        · exact .inr ⟨j, rs, by rw [List.getElem?_set_ne e]; exact e1, e2⟩
  have hO : OO O0 σ ρ a := .inr ⟨i, ps, h1, h2⟩
  have hk : ∀ b o, H b = some o → ¬ OO O0 σ ρ b → upd H a (.lst ws) b = some o ∧ ¬ OO O0 σ (ρ.set i (.own qs)) b := fun b o hb nb =>
    ⟨by rw [upd_ne (fun z => nb (by rw [z]; exact hO))]; exact hb, fun z => nb ((oeq b).mp z)⟩
  obtain ⟨a', vs, e1, e2, e3, e5, _⟩ := S.own i ps h1
  rw [h2] at e1; cases e1
  refine ⟨by rw [List.length_set, S.len], fun b o hb => ?_, fun b hb => ?_, fun j rs h => ?_, fun j k b rs ts g1 g2 g3 g4 => ?_, fun j p h => ?_, exs_setR S.exs fun _ z => (nomatch z), dds_setR (dds_later S.dds (fun b l e => by rw [upd_ne (fun z => by rw [z, e2] at e; cases e)]; exact e) fun b xs _ e => by
    by_cases q : b = a
    · rw [q, upd_same] at e; cases e
    · rw [upd_ne q] at e; exact e) fun _ _ z => (nomatch z)⟩
  · rw [upd_ne (fun z => by rw [z, e3] at hb; cases hb)]; exact S.same b o hb
  · by_cases e : b = a
    · rw [e, upd_same]; exact fun z => nomatch z
    · rw [upd_ne e]; exact S.all0 b hb
  · by_cases e : i = j
    · subst e
      rw [List.getElem?_set_self hi] at h; cases h
      exact ⟨a, ws, h2, upd_same, e3, e5, hr.mono hk⟩
    · rw [List.getElem?_set_ne e] at h
      obtain ⟨b, us, f1, f2, f3, f5, f4⟩ := S.own j rs h
      exact ⟨b, us, f1, by rw [upd_ne (fun z => e (S.dis i j a ps rs h1 h h2 (by rw [← z]; exact f1)))]; exact f2, f3, f5, f4.mono hk⟩
  · have go : ∀ {j : Nat} {rs : List PV}, (ρ.set i (.own qs))[j]? = some (.own rs) → ∃ rs', ρ[j]? = some (.own rs') := fun {j rs} h => by
      by_cases e : i = j
      · subst e; exact ⟨_, h1⟩
      · rw [List.getElem?_set_ne e] at h; exact ⟨_, h⟩
    obtain ⟨_, f1⟩ := go g1
    obtain ⟨_, f2⟩ := go g2
    exact S.dis j k b _ _ f1 f2 g3 g4
  · by_cases e : i = j
    · subst e
      rw [List.getElem?_set_self hi] at h; cases h
    · rw [List.getElem?_set_ne e] at h
      obtain ⟨w, f1, f2⟩ := S.val j p h
      exact ⟨w, f1, f2.mono hk⟩
end
end PL
set_option Elab.async false
set_option linter.all false
set_option maxRecDepth 100000
set_option autoImplicit false
namespace PL
open PySem PySem.Spec L2
open PyProof.Rows hiding St
/-- how a result stands: s: apart from the owned lists; t: it may be an owned list itself; f: a list that is new; w: apart from the outer addresses alone -/
inductive Md where
  | s | t | f | w
def RepM (K : PySem.W.Frag) (O0 : Addr → Prop) (σ : St) (ρ : Rho) : Md → Hp → Hp → V → PV → Prop
  | .s, _, H', v, p => Rep K H' (OO O0 σ ρ) v p
  | .t, _, H', v, p => Rep K H' (OO O0 σ ρ) v p ∨ ∃ a vs ps, v = .ref a ∧ p = .lst ps ∧ H' a = some (.lst vs) ∧ Reps K H' (OO O0 σ ρ) vs ps
  | .f, H, H', v, p => (v = .non ∧ p = .non) ∨ ∃ a vs ps, v = .ref a ∧ p = .lst ps ∧ H a = none ∧ H' a = some (.lst vs) ∧ Reps K H' (fun b => OO O0 σ ρ b ∨ b = a) vs ps
  | .w, _, H', v, p => Rep K H' O0 v p
section
variable {K : PySem.W.Frag} {H0 H H1 H2 : Hp} {O0 : Addr → Prop} {σ : St} {ρ : Rho} {v : V} {p : PV} {m : Md}
theorem RepM.step (r : RepM K O0 σ ρ m H H1 v p) (s : Same H1 H2) : RepM K O0 σ ρ m H H2 v p := by
  cases m with
  | s => exact Rep.same s r
  | t =>
    rcases r with r | ⟨a, vs, ps, e1, e2, e3, e4⟩
    · exact .inl (r.same s)
    · exact .inr ⟨a, vs, ps, e1, e2, s _ _ e3, e4.same s⟩
  | f =>
    rcases r with z | ⟨a, vs, ps, e1, e2, e3, e4, e5⟩
    · exact .inl z
    · exact .inr ⟨a, vs, ps, e1, e2, e3, s _ _ e4, e5.same s⟩
  | w => exact Rep.same s r
theorem RepM.back (s : Same H H1) (r : RepM K O0 σ ρ m H1 H2 v p) : RepM K O0 σ ρ m H H2 v p := by
  cases m with
  | s => exact r
  | t => exact r
  | f =>
    rcases r with z | ⟨a, vs, ps, e1, e2, e3, e4, e5⟩
    · exact .inl z
    · exact .inr ⟨a, vs, ps, e1, e2, s.free e3, e4, e5⟩
  | w => exact r
theorem RepM.f_s (S : StR K H0 O0 H σ ρ) (r : RepM K O0 σ ρ .f H H1 v p) : RepM K O0 σ ρ .s H H1 v p := by
  rcases r with ⟨rfl, rfl⟩ | ⟨a, vs, ps, rfl, rfl, e3, e4, e5⟩
  · exact .non
  · exact .lst e4 (fun z => S.there z e3) (e5.less fun _ z => .inl z)
theorem RepM.s_w (r : RepM K O0 σ ρ .s H H1 v p) : RepM K O0 σ ρ .w H H1 v p := Rep.less (fun _ z => .inl z) r
theorem RepM.s_t (r : RepM K O0 σ ρ .s H H1 v p) : RepM K O0 σ ρ .t H H1 v p := .inl r
end
/-- what an expression's end must bring -/
def Got (K : PySem.W.Frag) (mg : Str → Option Value) (W : WX) (O0 : Addr → Prop) (σ : St) (ρ : Rho) (m : Md) (H : Hp) (Q : VK) : R PV → Prop
  | .ok p => ∀ v H', Same H H' → RepM K O0 σ ρ m H H' v p → Q v H'
  | .exc c => ∀ C H', Same H H' → mg c = some (.ref C) → W (.ref C) none σ H'
  | .stuck => False
def GotT (mg : Str → Option Value) (W : WX) (σ : St) (H : Hp) (Q : Bool → Hp → Prop) : R Bool → Prop
  | .ok b => ∀ H', Same H H' → Q b H'
  | .exc c => ∀ C H', Same H H' → mg c = some (.ref C) → W (.ref C) none σ H'
  | .stuck => False
def GotA (K : PySem.W.Frag) (mg : Str → Option Value) (W : WX) (O0 : Addr → Prop) (σ : St) (ρ : Rho) (m : Md) (H : Hp) (Q : List V → Hp → Prop) : R (List PV) → Prop
  | .ok ps => ∀ vs H', Same H H' → Paired (RepM K O0 σ ρ m H H') vs ps → Q vs H'
  | .exc c => ∀ C H', Same H H' → mg c = some (.ref C) → W (.ref C) none σ H'
  | .stuck => False
def tE (K : PySem.W.Frag) (mg : Str → Option Value) (W : WX) (m : Md) (f : Rho → R PV) : TE := fun σ H Q =>
  ∃ H0 O0 ρ, StR K H0 O0 H σ ρ ∧ Got K mg W O0 σ ρ m H Q (f ρ)
def tT (K : PySem.W.Frag) (mg : Str → Option Value) (W : WX) (f : Rho → R Bool) : TT := fun σ H Q =>
  ∃ H0 O0 ρ, StR K H0 O0 H σ ρ ∧ GotT mg W σ H Q (f ρ)
def tA (K : PySem.W.Frag) (mg : Str → Option Value) (W : WX) (m : Md) (f : Rho → R (List PV)) : TA := fun σ H Q =>
  ∃ H0 O0 ρ, StR K H0 O0 H σ ρ ∧ GotA K mg W O0 σ ρ m H Q (f ρ)
abbrev EJ (X : Cx) (W : WX) (m : Md) (e : Expr) (f : Rho → R PV) : Prop := PE X e (tE X.K X.mg W m f)
abbrev TJ (X : Cx) (W : WX) (e : Expr) (f : Rho → R Bool) : Prop := PT X e (tT X.K X.mg W f)
abbrev AJ (X : Cx) (W : WX) (m : Md) (es : List Expr) (f : Rho → R (List PV)) : Prop := PA X es (tA X.K X.mg W m f)
section
variable {X : Cx} {e a b : Expr} {pos : Pos}
theorem pe_imp {t t' : TE} (h : PE X e t) (q : ∀ σ H Q, t' σ H Q → t σ H Q) : PE X e t' := ⟨fun pins s σ H Q I hw => h.run pins s σ H Q I (q σ H Q hw)⟩
theorem pt_imp {t t' : TT} (h : PT X e t) (q : ∀ σ H Q, t' σ H Q → t σ H Q) : PT X e t' := ⟨fun pins s σ H Q I hw => h.run pins s σ H Q I (q σ H Q hw)⟩
theorem pw_imp {t t' : TT} (h : PW X e t) (q : ∀ σ H Q, t' σ H Q → t σ H Q) : PW X e t' := ⟨fun wh pins s σ H Q I hw => h.run wh pins s σ H Q I (q σ H Q hw)⟩
theorem pa_imp {es : List Expr} {t t' : TA} (h : PA X es t) (q : ∀ σ H Q, t' σ H Q → t σ H Q) : PA X es t' := ⟨fun pos pins s σ H Q I hw => h.run pos pins s σ H Q I (q σ H Q hw)⟩
end
section
variable {K : PySem.W.Frag} {mg : Str → Option Value} {W : WX} {H0 H H1 H2 : Hp} {O0 : Addr → Prop} {σ : St} {ρ : Rho} {m m1 m2 : Md}
/-- from a later heap -/
theorem Got.later {x : R PV} {Q : VK} (s : Same H H1) (h : Got K mg W O0 σ ρ m H Q x) : Got K mg W O0 σ ρ m H1 Q x := by
  cases x with
  | ok p => exact fun v H' s' r => h v H' (s.trans s') (r.back s)
  | exc c => exact fun C H' s' e => h C H' (s.trans s') e
  | stuck => exact h
theorem GotT.later {x : R Bool} {Q : Bool → Hp → Prop} (s : Same H H1) (h : GotT mg W σ H Q x) : GotT mg W σ H1 Q x := by
  cases x with
  | ok p => exact fun H' s' => h H' (s.trans s')
  | exc c => exact fun C H' s' e => h C H' (s.trans s') e
  | stuck => exact h
end
def eC (p : PV) : Rho → R PV := fun _ => .ok p
def eV (i : Nat) : Rho → R PV := fun ρ => match ρ[i]? with
  | some (.val p) => .ok p
  | _ => .stuck
def eVo (i : Nat) : Rho → R PV := fun ρ => match ρ[i]? with
  | some (.val p) => .ok p
  | some (.own ps) => .ok (.lst ps)
  | _ => .stuck
section
variable {X : Cx} {W : WX} {e a b c : Expr} {pos : Pos} {m m1 m2 m3 : Md} {f g h : Rho → R PV}
theorem e_const {v : V} {p : PV} (hp : PE X e (tC v)) (hr : ∀ K H O, Rep K H O v p) : EJ X W .s e (eC p) := by
  refine pe_imp hp fun σ H Q ⟨H0, O0, ρ, S, G⟩ => ?_
  exact G v H (Same.refl H) (hr _ _ _)
theorem e_int {i : Int} {j : Nat} : EJ X W .s (.Constant (.int i) j pos) (eC (.int i)) := e_const pe_int fun _ _ _ => .int i
theorem e_bl {k : Bool} {j : Nat} : EJ X W .s (.Constant (.bool k) j pos) (eC (.bl k)) := e_const pe_bl fun _ _ _ => .bl k
theorem e_non {j : Nat} : EJ X W .s (.Constant .none j pos) (eC .non) := e_const pe_non fun _ _ _ => .non
theorem e_str {x : Str} {j : Nat} : EJ X W .s (.Constant (.str x) j pos) (eC (.str x)) := e_const pe_str fun _ _ _ => .str x
theorem e_s_t (h : EJ X W .s e f) : EJ X W .t e f := by
  refine pe_imp h fun σ H Q ⟨H0, O0, ρ, S, G⟩ => ⟨H0, O0, ρ, S, ?_⟩
  revert G
  cases f ρ with
  | ok p => exact fun G v H' s r => G v H' s (RepM.s_t (H := H) r)
  | exc c => exact id
  | stuck => exact id
theorem e_f_s (h : EJ X W .f e f) : EJ X W .s e f := by
  refine pe_imp h fun σ H Q ⟨H0, O0, ρ, S, G⟩ => ⟨H0, O0, ρ, S, ?_⟩
  revert G
  cases f ρ with
  | ok p => exact fun G v H' s r => G v H' s (RepM.f_s S r)
  | exc c => exact id
  | stuck => exact id
theorem e_f_t (h : EJ X W .f e f) : EJ X W .t e f := e_s_t (e_f_s h)
theorem eVar_get {K : PySem.W.Frag} {H0 H : Hp} {O0 : Addr → Prop} {σ : St} {ρ : Rho} (S : StR K H0 O0 H σ ρ) {i : Nat} {p : PV} (h : eV i ρ = .ok p) : ∃ v, σ[i]? = some (some v) ∧ Rep K H (OO O0 σ ρ) v p := by
  unfold eV at h
  split at h
  · rename_i q hq
    cases h
    exact S.val i _ hq
  · cases h
theorem e_var {i : Nat} (hp : PE X e (tVar i)) : EJ X W .s e (eV i) := by
  refine pe_imp hp fun σ H Q ⟨H0, O0, ρ, S, G⟩ => ?_
  revert G
  cases hv : eV i ρ with
  | ok p =>
    intro G
    obtain ⟨v, e1, e2⟩ := eVar_get S hv
    exact ⟨v, e1, G v H (Same.refl H) e2⟩
  | exc c => unfold eV at hv; split at hv <;> cases hv
  | stuck => exact False.elim
theorem eVo_get {K : PySem.W.Frag} {H0 H : Hp} {O0 : Addr → Prop} {σ : St} {ρ : Rho} (S : StR K H0 O0 H σ ρ) {i : Nat} {p : PV} (h : eVo i ρ = .ok p) : ∃ v, σ[i]? = some (some v) ∧ RepM K O0 σ ρ .t H H v p ∧ RepM K O0 σ ρ .w H H v p := by
  unfold eVo at h
  split at h
  · rename_i q hq
    cases h
    obtain ⟨v, e1, e2⟩ := S.val i _ hq
    exact ⟨v, e1, .inl e2, RepM.s_w (H := H) e2⟩
  · rename_i ps hq
    cases h
    obtain ⟨a, vs, e1, e2, e3, e5, e4⟩ := S.own i _ hq
    exact ⟨.ref a, e1, .inr ⟨a, vs, _, rfl, rfl, e2, e4⟩, .lst e2 e5 (e4.less fun _ z => .inl z)⟩
  · cases h
theorem eVo_noexc {i : Nat} {ρ : Rho} {c : Str} (h : eVo i ρ = .exc c) : False := by
  unfold eVo at h
  split at h <;> cases h
theorem e_varT {i : Nat} (hp : PE X e (tVar i)) : EJ X W .t e (eVo i) := by
  refine pe_imp hp fun σ H Q ⟨H0, O0, ρ, S, G⟩ => ?_
  revert G
  cases hv : eVo i ρ with
  | ok p =>
    intro G
    obtain ⟨v, e1, e2, _⟩ := eVo_get S hv
    exact ⟨v, e1, G v H (Same.refl H) e2⟩
  | exc c => exact (eVo_noexc hv).elim
  | stuck => exact False.elim
/-- what an operation's end must bring -/
def GotV (K : PySem.W.Frag) (O0 : Addr → Prop) (σ : St) (ρ : Rho) (m : Md) (H H2 : Hp) (Q : VK) : R PV → Prop
  | .ok p => ∀ v H', Same H2 H' → RepM K O0 σ ρ m H H' v p → Q v H'
  | _ => False
def OpS (K : PySem.W.Frag) (r : R2) (m1 m2 m : Md) (g : PV → PV → R PV) : Prop :=
  ∀ {H0 O0 σ ρ H H2 x y p q} {Q : VK}, StR K H0 O0 H σ ρ → Same H H2 → RepM K O0 σ ρ m1 H H2 x p → RepM K O0 σ ρ m2 H H2 y q → GotV K O0 σ ρ m H H2 Q (g p q) → r x y H2 Q
def CallS (K : PySem.W.Frag) (r : List V → Hp → VK → Prop) (m1 m : Md) (g : List PV → R PV) : Prop :=
  ∀ {H0 O0 σ ρ H H2 xs ps} {Q : VK}, StR K H0 O0 H σ ρ → Same H H2 → Paired (RepM K O0 σ ρ m1 H H2) xs ps → GotV K O0 σ ρ m H H2 Q (g ps) → r xs H2 Q
def e2 (g : PV → PV → R PV) (f1 f2 : Rho → R PV) : Rho → R PV := fun ρ => (f1 ρ).bind fun x => (f2 ρ).bind fun y => g x y
def e1 (g : PV → R PV) (f1 : Rho → R PV) : Rho → R PV := fun ρ => (f1 ρ).bind g
theorem Got.v {K : PySem.W.Frag} {mg : Str → Option Value} {O0 : Addr → Prop} {σ : St} {ρ : Rho} {H H2 : Hp} {Q : VK} {x : R PV} (hx : ∀ c, x ≠ .exc c) (s : Same H H2) (G : Got K mg W O0 σ ρ m H Q x) : GotV K O0 σ ρ m H H2 Q x := by
  cases x with
  | ok p => exact fun v H' s' r => G v H' (s.trans s') r
  | exc c => exact absurd rfl (hx c)
  | stuck => exact G
theorem t_op {r : R2} {g : PV → PV → R PV} (hg : ∀ p q c, g p q ≠ .exc c) (ho : OpS X.K r m1 m2 m g) : ∀ σ H Q, tE X.K X.mg W m (e2 g f h) σ H Q → tOp r (tE X.K X.mg W m1 f) (tE X.K X.mg W m2 h) σ H Q := by
  intro σ H Q ⟨H0, O0, ρ, S, G⟩
  refine ⟨H0, O0, ρ, S, ?_⟩
  revert G
  unfold e2
  cases f ρ with
  | stuck => exact False.elim
  | exc c => exact id
  | ok p =>
    intro G x H1 s1 r1
    refine ⟨H0, O0, ρ, S.step s1, ?_⟩
    revert G
    rw [R.bind_ok]
    cases h ρ with
    | stuck => exact False.elim
    | exc c => exact fun G C H' s' => G C H' (s1.trans s')
    | ok q =>
      intro G y H2 s2 r2
      exact ho S (s1.trans s2) (r1.step s2) (r2.back s1) (Got.v (hg p q) (s1.trans s2) G)
theorem e_op {op : Operator} {r : R2} {g : PV → PV → R PV} (hr : OpR X (binaryOp op) r) (hg : ∀ p q c, g p q ≠ .exc c) (ho : OpS X.K r m1 m2 m g) (ha : EJ X W m1 a f) (hb : EJ X W m2 b h) : EJ X W m (.BinOp a op b pos) (e2 g f h) :=
  pe_imp (pe_op hr ha hb) (t_op hg ho)
theorem e_cmp {op : CmpOp} {r : R2} {g : PV → PV → R PV} (hr : OpR X (compareOp op) r) (hg : ∀ p q c, g p q ≠ .exc c) (ho : OpS X.K r m1 m2 m g) (ha : EJ X W m1 a f) (hb : EJ X W m2 b h) (hm : behindInMarks op b = false) : EJ X W m (.Compare a [op] [b] pos) (e2 g f h) :=
  pe_imp (pe_cmpR hr ha hb hm) (t_op hg ho)
theorem e_ix {r : R2} {g : PV → PV → R PV} (hr : IxR X r) (hg : ∀ p q c, g p q ≠ .exc c) (ho : OpS X.K r m1 m2 m g) (ha : EJ X W m1 a f) (hb : EJ X W m2 b h) (hs : PlainIx b) : EJ X W m (.Subscript a b pos) (e2 g f h) :=
  pe_imp (pe_ix hr ha hb hs) (t_op hg ho)
def asB : PV → R Bool
  | .bl b => .ok b
  | _ => .stuck
def tB1 (f : Rho → R PV) : Rho → R Bool := fun ρ => (f ρ).bind asB
theorem GotB {K : PySem.W.Frag} {mg : Str → Option Value} {O0 : Addr → Prop} {σ : St} {ρ : Rho} {H : Hp} {Q : Bool → Hp → Prop} {x : R PV} (G : GotT mg W σ H Q (x.bind asB)) : Got K mg W O0 σ ρ .s H (fun v H' => ∃ k, v = .bl k ∧ Q k H') x := by
  revert G
  cases x with
  | stuck => exact False.elim
  | exc c => exact id
  | ok p =>
    cases p with
    | bl b => exact fun G v H' s r => by cases r; exact ⟨b, rfl, G H' s⟩
    | _ => exact False.elim
theorem t_cmp {op : CmpOp} {r : R2} {g : PV → PV → R PV} (hr : OpR X (compareOp op) r) (hg : ∀ p q c, g p q ≠ .exc c) (ho : OpS X.K r m1 m2 .s g) (ha : EJ X W m1 a f) (hb : EJ X W m2 b h) (hm : behindInMarks op b = false) : TJ X W (.Compare a [op] [b] pos) (tB1 (e2 g f h)) := by
  refine pt_imp (pt_cmpR hr ha hb hm) fun σ H Q ⟨H0, O0, ρ, S, G⟩ => ?_
  exact t_op hg ho σ H _ ⟨H0, O0, ρ, S, GotB G⟩
/-- an expression of any other kind, worth a truth value -/
theorem t_val (ha : EJ X W .s e f) (he : ∀ whole, isTrue e X.env whole = (do let v ← whole; standAt e.pos; holding [v] (truthy v)) := by intro _; rfl) : TJ X W e (tB1 f) := by
  refine pt_imp (pt_val ha he) fun σ H Q ⟨H0, O0, ρ, S, G⟩ => ⟨H0, O0, ρ, S, GotB G⟩
variable {fT gT hT : Rho → R Bool}
def tNt (f : Rho → R Bool) : Rho → R Bool := fun ρ => (f ρ).bind fun b => .ok (!b)
def tAn (f g : Rho → R Bool) : Rho → R Bool := fun ρ => (f ρ).bind fun b => if b = true then g ρ else .ok false
def tOr' (f g : Rho → R Bool) : Rho → R Bool := fun ρ => (f ρ).bind fun b => if b = true then .ok true else g ρ
theorem t_not (ha : TJ X W a fT) : TJ X W (.UnaryOp .Not a pos) (tNt fT) := by
  refine pt_imp (pt_not ha) fun σ H Q ⟨H0, O0, ρ, S, G⟩ => ⟨H0, O0, ρ, S, ?_⟩
  revert G
  unfold tNt
  cases fT ρ with
  | stuck => exact False.elim
  | exc c => exact id
  | ok b => exact fun G H' s => G H' s
abbrev WJ (X : Cx) (W : WX) (e : Expr) (f : Rho → R Bool) : Prop := PW X e (tT X.K X.mg W f)
theorem t_w (h : WJ X W e fT) : TJ X W e fT := PW.pt h
variable {rest : List Expr}
theorem w_and1 (ha : TJ X W a fT) : WJ X W (.BoolOp .And [a] pos) fT := pw_and1 ha
theorem w_or1 (ha : TJ X W a fT) : WJ X W (.BoolOp .Or [a] pos) fT := pw_or1 ha
theorem w_and (ha : TJ X W a fT) (hb : WJ X W (.BoolOp .And (b :: rest) pos) gT) : WJ X W (.BoolOp .And (a :: b :: rest) pos) (tAn fT gT) := by
  refine pw_imp (pw_and ha hb) fun σ H Q ⟨H0, O0, ρ, S, G⟩ => ⟨H0, O0, ρ, S, ?_⟩
  revert G
  unfold tAn
  cases fT ρ with
  | stuck => exact False.elim
  | exc c => exact id
  | ok k =>
    intro G H1 s1
    cases k with
    | true => rw [if_pos rfl]; exact ⟨H0, O0, ρ, S.step s1, GotT.later s1 G⟩
    | false => rw [if_neg Bool.false_ne_true]; exact G H1 s1
theorem w_or (ha : TJ X W a fT) (hb : WJ X W (.BoolOp .Or (b :: rest) pos) gT) : WJ X W (.BoolOp .Or (a :: b :: rest) pos) (tOr' fT gT) := by
  refine pw_imp (pw_or ha hb) fun σ H Q ⟨H0, O0, ρ, S, G⟩ => ⟨H0, O0, ρ, S, ?_⟩
  revert G
  unfold tOr'
  cases fT ρ with
  | stuck => exact False.elim
  | exc c => exact id
  | ok k =>
    intro G H1 s1
    cases k with
    | false => rw [if_neg Bool.false_ne_true]; exact ⟨H0, O0, ρ, S.step s1, GotT.later s1 G⟩
    | true => rw [if_pos rfl]; exact G H1 s1
/-- and, or, not as values -/
def eAn (f g : Rho → R PV) : Rho → R PV := fun ρ => (f ρ).bind fun p => (asB p).bind fun b => if b = true then g ρ else .ok (.bl false)
def eOr (f g : Rho → R PV) : Rho → R PV := fun ρ => (f ρ).bind fun p => (asB p).bind fun b => if b = true then .ok (.bl true) else g ρ
def notP : PV → R PV
  | .bl b => .ok (.bl (!b))
  | _ => .stuck
theorem e_one {op : BoolOp} (ha : EJ X W m a f) : EJ X W m (.BoolOp op [a] pos) f := pe_one ha
theorem e_and (ha : EJ X W .s a f) (hb : EJ X W .s (.BoolOp .And (b :: rest) pos) g) : EJ X W .s (.BoolOp .And (a :: b :: rest) pos) (eAn f g) := by
  refine pe_imp (pe_and ha hb) fun σ H Q ⟨H0, O0, ρ, S, G⟩ => ⟨H0, O0, ρ, S, ?_⟩
  revert G
  unfold eAn
  cases f ρ with
  | stuck => exact False.elim
  | exc c => exact id
  | ok p =>
    cases p with
    | bl k =>
      intro G v H1 s1 r1
      cases r1
      refine ⟨k, rfl, ?_⟩
      cases k with
      | true => rw [if_pos rfl]; exact ⟨H0, O0, ρ, S.step s1, Got.later s1 G⟩
      | false => rw [if_neg Bool.false_ne_true]; exact G _ H1 s1 (.bl false)
    | _ => exact False.elim
theorem e_or (ha : EJ X W .s a f) (hb : EJ X W .s (.BoolOp .Or (b :: rest) pos) g) : EJ X W .s (.BoolOp .Or (a :: b :: rest) pos) (eOr f g) := by
  refine pe_imp (pe_or ha hb) fun σ H Q ⟨H0, O0, ρ, S, G⟩ => ⟨H0, O0, ρ, S, ?_⟩
  revert G
  unfold eOr
  cases f ρ with
  | stuck => exact False.elim
  | exc c => exact id
  | ok p =>
    cases p with
    | bl k =>
      intro G v H1 s1 r1
      cases r1
      refine ⟨k, rfl, ?_⟩
      cases k with
      | false => rw [if_neg Bool.false_ne_true]; exact ⟨H0, O0, ρ, S.step s1, Got.later s1 G⟩
      | true => rw [if_pos rfl]; exact G _ H1 s1 (.bl true)
    | _ => exact False.elim
theorem e_not (ha : EJ X W .s a f) : EJ X W .s (.UnaryOp .Not a pos) (e1 notP f) := by
  refine pe_imp (pe_not ha) fun σ H Q ⟨H0, O0, ρ, S, G⟩ => ⟨H0, O0, ρ, S, ?_⟩
  revert G
  unfold e1
  cases f ρ with
  | stuck => exact False.elim
  | exc c => exact id
  | ok p =>
    cases p with
    | bl k => exact fun G v H1 s1 r1 => by cases r1; exact ⟨k, rfl, G _ H1 s1 (.bl _)⟩
    | _ => exact False.elim
def eIf (t : Rho → R Bool) (f g : Rho → R PV) : Rho → R PV := fun ρ => (t ρ).bind fun b => if b = true then f ρ else g ρ
def aNil : Rho → R (List PV) := fun _ => .ok []
def aCons (f : Rho → R PV) (g : Rho → R (List PV)) : Rho → R (List PV) := fun ρ => (f ρ).bind fun p => (g ρ).bind fun ps => .ok (p :: ps)
variable {es : List Expr} {fA : Rho → R (List PV)}
theorem a_nil : AJ X W m [] aNil := by
  refine pa_imp pa_nil fun σ H Q ⟨H0, O0, ρ, S, G⟩ => ?_
  exact G [] H (Same.refl H) .nil
theorem a_cons (ha : EJ X W m e f) (hr : AJ X W m es fA) (hs : starEach (e :: es) X.env = (false, eval e X.env) :: starEach es X.env := by rfl) : AJ X W m (e :: es) (aCons f fA) := by
  refine pa_imp (pa_cons ha hr hs) fun σ H Q ⟨H0, O0, ρ, S, G⟩ => ⟨H0, O0, ρ, S, ?_⟩
  revert G
  unfold aCons
  cases f ρ with
  | stuck => exact False.elim
  | exc c => exact id
  | ok p =>
    intro G v H1 s1 r1
    refine ⟨H0, O0, ρ, S.step s1, ?_⟩
    revert G
    rw [R.bind_ok]
    cases fA ρ with
    | stuck => exact False.elim
    | exc c => exact fun G C H' s' => G C H' (s1.trans s')
    | ok ps =>
      intro G vs H2 s2 r2
      refine G (v :: vs) H2 (s1.trans s2) (.cons (r1.step s2) ?_)
      exact Paired.mapP r2 fun _ _ z => z.back s1
theorem reps_of {K : PySem.W.Frag} {O0 : Addr → Prop} {σ : St} {ρ : Rho} {H H' : Hp} : ∀ {vs : List V} {ps : List PV}, Paired (RepM K O0 σ ρ .s H H') vs ps → Reps K H' (OO O0 σ ρ) vs ps
  | _, _, .nil => .nil
  | _, _, .cons h r => .cons h (reps_of r)
theorem same_new {H : Hp} {p : Addr} {o : HO} (h : H p = none) : Same H (upd H p o) := fun b x z => by
  rw [upd_ne (ne_of_none z h)]; exact z
def tupP (ps : List PV) : R PV := if ps.length ≤ sizeLine then .ok (.tup ps) else .stuck
def lstP (ps : List PV) : R PV := if ps.length ≤ sizeLine then .ok (.lst ps) else .stuck
def eD (g : List PV → R PV) (f : Rho → R (List PV)) : Rho → R PV := fun ρ => (f ρ).bind g
theorem new_tup {K : PySem.W.Frag} {H0 H H1 : Hp} {O0 : Addr → Prop} {σ : St} {ρ : Rho} (S : StR K H0 O0 H1 σ ρ) {vs : List V} {ps : List PV} (r : Reps K H1 (OO O0 σ ρ) vs ps) {p : Addr} (hp : H1 p = none) : Rep K (upd H1 p (.tup vs)) (OO O0 σ ρ) (.ref p) (.tup ps) :=
  .tup (.inl ⟨upd_same, fun z => S.there z hp⟩) (r.same (same_new hp))
theorem new_lst {K : PySem.W.Frag} {H0 H H1 : Hp} {O0 : Addr → Prop} {σ : St} {ρ : Rho} (s : Same H H1) {vs : List V} {ps : List PV} (r : Reps K H1 (OO O0 σ ρ) vs ps) {p : Addr} (hp : H1 p = none) : RepM K O0 σ ρ .f H (upd H1 p (.lst vs)) (.ref p) (.lst ps) :=
  .inr ⟨p, vs, ps, rfl, rfl, s.free hp, upd_same, r.mono fun b o hb nb => ⟨same_new hp b o hb, fun z => z.elim nb fun z => by rw [z, hp] at hb; cases hb⟩⟩
theorem e_tup {k : Nat} (h : AJ X W .s es fA) : EJ X W .s (.Tuple es k pos) (eD tupP fA) := by
  refine pe_imp (pe_tup h) fun σ H Q ⟨H0, O0, ρ, S, G⟩ => ⟨H0, O0, ρ, S, ?_⟩
  revert G
  unfold eD
  cases fA ρ with
  | stuck => exact False.elim
  | exc c => exact id
  | ok ps =>
    intro G vs H1 s1 r1
    have rr := reps_of r1
    revert G
    rw [R.bind_ok]
    unfold tupP
    split
    · rename_i hz
      exact fun G => ⟨by rw [rr.length]; exact hz, fun p hp => G _ _ (s1.trans (same_new hp)) (new_tup (H := H) (S.step s1) rr hp)⟩
    · exact False.elim
theorem e_lst (h : AJ X W .s es fA) : EJ X W .f (.List es pos) (eD lstP fA) := by
  refine pe_imp (pe_lst h) fun σ H Q ⟨H0, O0, ρ, S, G⟩ => ⟨H0, O0, ρ, S, ?_⟩
  revert G
  unfold eD
  cases fA ρ with
  | stuck => exact False.elim
  | exc c => exact id
  | ok ps =>
    intro G vs H1 s1 r1
    have rr := reps_of r1
    revert G
    rw [R.bind_ok]
    unfold lstP
    split
    · rename_i hz
      exact fun G => ⟨by rw [rr.length]; exact hz, fun p hp => G _ _ (s1.trans (same_new hp)) (new_lst (H0 := H0) s1 rr hp)⟩
    · exact False.elim
theorem e_callB {x : Str} {p : Pos} {id : String} {r : List V → Hp → VK → Prop} {g' : List PV → R PV} (hc : CallR X (.builtin id) r) (hgn : ∀ ps c, g' ps ≠ .exc c) (ho : CallS X.K r m1 m g') (hg : Gl X x) (hm : X.mg x = none) (hv : bootBuiltins x = some (.builtin id)) (ha : AJ X W m1 (e :: es) fA) (hn : x ≠ "__name__" := by decide) (hdb : (x == ("__debug__" : Str)) = false := by decide)
    (he : starEach (e :: es) X.env = (false, eval e X.env) :: starEach es X.env := by rfl) (hpl : (backTo pos (starEach es X.env)).any (·.1) = false := by rfl) : EJ X W m (.Call (.Name x p) (e :: es) [] pos) (eD g' fA) := by
  refine pe_imp (pe_callB hc hg hm hv ha hn hdb he hpl) fun σ H Q ⟨H0, O0, ρ, S, G⟩ => ⟨H0, O0, ρ, S, ?_⟩
  revert G
  unfold eD
  cases fA ρ with
  | stuck => exact False.elim
  | exc c => exact fun G => G
  | ok ps => exact fun G vs H1 s1 r1 => ho S s1 r1 (Got.v (hgn ps) s1 G)
theorem e_callTy {x : Str} {p : Pos} {T : String} {r : List V → Hp → VK → Prop} {g' : List PV → R PV} (hc : CallR X (.type T) r) (hgn : ∀ ps c, g' ps ≠ .exc c) (ho : CallS X.K r m1 m g') (hg : Gl X x) (hm : X.mg x = none) (hv : bootBuiltins x = some (.type T)) (ha : AJ X W m1 (e :: es) fA) (hn : x ≠ "__name__" := by decide) (hdb : (x == ("__debug__" : Str)) = false := by decide)
    (he : starEach (e :: es) X.env = (false, eval e X.env) :: starEach es X.env := by rfl) (hpl : (backTo pos (starEach es X.env)).any (·.1) = false := by rfl) : EJ X W m (.Call (.Name x p) (e :: es) [] pos) (eD g' fA) := by
  refine pe_imp (pe_callTy hc hg hm hv ha hn hdb he hpl) fun σ H Q ⟨H0, O0, ρ, S, G⟩ => ⟨H0, O0, ρ, S, ?_⟩
  revert G
  unfold eD
  cases fA ρ with
  | stuck => exact False.elim
  | exc c => exact fun G => G
  | ok ps => exact fun G vs H1 s1 r1 => ho S s1 r1 (Got.v (hgn ps) s1 G)
def RepR (K : PySem.W.Frag) (O : Addr → Prop) : Bool → Hp → Hp → V → PV → Prop
  | false, _, H', v, p => Rep K H' O v p
  | true, H, H', v, p => (v = .non ∧ p = .non) ∨ ∃ a vs ps, v = .ref a ∧ p = .lst ps ∧ H a = none ∧ H' a = some (.lst vs) ∧ Reps K H' (fun b => O b ∨ b = a) vs ps
/-- the def's promise: n arguments; the function of their values; whether what it hands back is a new list -/
def spF (K : PySem.W.Frag) (mg : Str → Option Value) (n : Nat) (nw : Bool) (F : List PV → R PV) : Sp := fun vs H Q E =>
  ∃ ps O, (∀ a, O a → H a ≠ none) ∧ Reps K H O vs ps ∧ vs.length = n ∧ (match F ps with
    | .ok p => ∀ v H', Same H H' → RepR K O nw H H' v p → Q v H'
    | .exc c => ∀ C H', Same H H' → mg c = some (.ref C) → E (.ref C) none H'
    | .stuck => False)
def mdR : Bool → Md | false => .s | true => .f
theorem e_call {x : Str} {p : Pos} {k : Nat} {fa : Addr} {fd : FuncData} {pn : List Str} {n : Nat} {nw : Bool} {F : List PV → R PV} {dvs : List V} {dps : List PV} {ds : List Value} (Fo : FnOk X.prog X.w X.K X.mg X.base (L2N.CX X.prog X.w) k fa fd pn (spF X.K X.mg n nw F)) (hr : Room k X.A) (hg : Gl X x) (hm : X.mg x = some (.ref fa))
    (hk : PySem.W.keepIn X.K (.ref fa) = true) (hb : L2.Binds X.K fd pn ds) (hd : Vals dvs ds) (hdp : ∀ H O, Reps X.K H O dvs dps) (tk : L2N.Takes X W) (ha : AJ X W .s (e :: es) fA) (hlen : n = es.length + 1 + dvs.length := by rfl) (hal : ∀ ρ ps, fA ρ = .ok ps → ps.length = es.length + 1) (hdb : (x == ("__debug__" : Str)) = false := by decide)
    (he : starEach (e :: es) X.env = (false, eval e X.env) :: starEach es X.env := by rfl) (hpl : (backTo pos (starEach es X.env)).any (·.1) = false := by rfl) : EJ X W (mdR nw) (.Call (.Name x p) (e :: es) [] pos) (eD (fun ps => F (ps ++ dps)) fA) := by
  refine pe_imp (pe_callSD (E := fun σ cls d H => W cls d σ H) Fo hr hg hm hk hb hd (fun σ => L2N.passAt tk σ) ha hdb he hpl) fun σ H Q ⟨H0, O0, ρ, S, G⟩ => ⟨H0, O0, ρ, S, ?_⟩
  revert G
  unfold eD
  cases hA : fA ρ with
  | stuck => exact False.elim
  | exc c => exact id
  | ok ps =>
    intro G vs H1 s1 r1
    have rr := reps_of r1
    refine ⟨ps ++ dps, OO O0 σ ρ, fun a z => (S.step s1).there z, rr.append (hdp _ _), ?_, ?_⟩
    · rw [List.length_append, rr.length, hal ρ ps hA, hlen]
    · revert G
      rw [R.bind_ok]
      cases F (ps ++ dps) with
      | stuck => exact id
      | exc c => exact fun G C H' s' e => G C H' (s1.trans s') e
      | ok p =>
        intro G v H' s' r'
        refine G v H' (s1.trans s') ?_
        cases nw with
        | false => exact r'
        | true =>
          rcases r' with z | ⟨a, vs', ps', q1, q2, q3, q4, q5⟩
          · exact .inl z
          · exact .inr ⟨a, vs', ps', q1, q2, s1.free q3, q4, q5⟩
end
end PL
set_option Elab.async false
set_option linter.all false
set_option maxRecDepth 100000
set_option autoImplicit false
namespace PL
open PySem PySem.Spec L2
open PyProof.Rows hiding St
section
variable {K : PySem.W.Frag} {H0 H H1 H2 : Hp} {O0 : Addr → Prop} {σ : St} {ρ : Rho} {x : V} {p : PV}
theorem rt_int {i : Int} (r : RepM K O0 σ ρ .t H H2 x (.int i)) : x = .int i := by
  rcases r with r | ⟨_, _, _, _, e, _⟩
  · cases r; rfl
  · cases e
theorem rt_str {i : Str} (r : RepM K O0 σ ρ .t H H2 x (.str i)) : x = .str i := by
  rcases r with r | ⟨_, _, _, _, e, _⟩
  · cases r; rfl
  · cases e
theorem rt_non (r : RepM K O0 σ ρ .t H H2 x .non) : x = .non := by
  rcases r with r | ⟨_, _, _, _, e, _⟩
  · cases r; rfl
  · cases e
theorem rt_lst {l : List PV} (r : RepM K O0 σ ρ .t H H2 x (.lst l)) : ∃ a vs, x = .ref a ∧ H2 a = some (.lst vs) ∧ Reps K H2 (OO O0 σ ρ) vs l := by
  rcases r with r | ⟨a, vs, ps, e1, e2, e3, e4⟩
  · cases r with
    | lst h _ r => exact ⟨_, _, rfl, h, r⟩
  · cases e2; exact ⟨a, vs, e1, e3, e4⟩
theorem sqT_of {O : Addr → Prop} {a : Addr} {xs : List V} (h : H a = some (.tup xs) ∧ ¬ O a ∨ KT K a xs) : SqT K H a xs := by
  rcases h with ⟨h, _⟩ | h
  · exact .inl (.inl h)
  · exact h.sq
theorem rt_tup {l : List PV} (r : RepM K O0 σ ρ .t H H2 x (.tup l)) : ∃ a vs, x = .ref a ∧ (H2 a = some (.tup vs) ∧ ¬ OO O0 σ ρ a ∨ KT K a vs) ∧ Reps K H2 (OO O0 σ ρ) vs l := by
  rcases r with r | ⟨a, vs, ps, e1, e2, e3, e4⟩
  · cases r with
    | tup h r => exact ⟨_, _, rfl, h, r⟩
  · cases e2
theorem rt_frz {l : List PV} (r : RepM K O0 σ ρ .t H H2 x (.frz l)) : ∃ (a : Addr) (ns : List Int), x = .ref a ∧ l = ns.map PV.int ∧ SqL K H2 a (ns.map V.int) := by
  rcases r with r | ⟨a, vs, ps, e1, e2, e3, e4⟩
  · generalize hl : PV.frz l = q at r
    cases r with
    | frz h =>
      cases hl
      refine ⟨_, _, rfl, rfl, ?_⟩
      rcases h with ⟨⟨o, h⟩, _⟩ | h
      · exact .inl (.inr ⟨o, h⟩)
      · exact h _
    | _ => cases hl
  · cases e2
end
def addP : PV → PV → R PV
  | .int a, .int b => .ok (.int (a + b))
  | .str a, .str b => if a.length + b.length ≤ sizeLine then .ok (.str (a ++ b)) else .stuck
  | .tup a, .tup b => if a.length + b.length ≤ sizeLine then .ok (.tup (a ++ b)) else .stuck
  | .lst a, .lst b => if a.length + b.length ≤ sizeLine then .ok (.lst (a ++ b)) else .stuck
  | _, _ => .stuck
theorem addP_exc (p q : PV) (c : Str) : addP p q ≠ .exc c := by
  unfold addP; split <;> (try split) <;> exact fun z => nomatch z
def rAddP (K : PySem.W.Frag) : R2 := fun x y H Q => rI0 (fun i j => .int (i + j)) x y H Q ∨ (∃ i j, x = .str i ∧ y = .str j ∧ i.length + j.length ≤ sizeLine ∧ Q (.str (i ++ j)) H) ∨ rCatA K x y H Q ∨ rCat x y H Q
theorem op_addP {X : Cx} : OpR X (binaryOp .Add) (rAddP X.K) := op_add.or (op_add_str.or (op_catA.or op_cat))
theorem cat_s {K : PySem.W.Frag} {H0 H H2 : Hp} {O0 : Addr → Prop} {σ : St} {ρ : Rho} {x y : V} {a b : List PV} {Q : VK} (S : StR K H0 O0 H σ ρ) (s : Same H H2) (rx : RepM K O0 σ ρ .t H H2 x (.lst a)) (ry : RepM K O0 σ ρ .t H H2 y (.lst b))
    (hz : a.length + b.length ≤ sizeLine) (G : ∀ v H', Same H2 H' → RepM K O0 σ ρ .f H H' v (.lst (a ++ b)) → Q v H') : rCat x y H2 Q := by
  obtain ⟨c, vs, rfl, h1, r1⟩ := rt_lst rx
  obtain ⟨d, ws, rfl, h2, r2⟩ := rt_lst ry
  exact ⟨c, d, vs, ws, rfl, rfl, h1, h2, by rw [r1.length, r2.length]; exact hz, fun l hl => G _ _ (same_new hl) (new_lst (H0 := H0) s (r1.append r2) hl)⟩
theorem s_addP (K : PySem.W.Frag) : OpS K (rAddP K) .t .t .s addP := by
  intro H0 O0 σ ρ H H2 x y p q Q S s rx ry G
  unfold addP at G
  split at G
  · rw [rt_int rx, rt_int ry]; exact .inl ⟨_, _, rfl, rfl, G _ _ (Same.refl _) (.int _)⟩
  · split at G
    · rename_i hz
      rw [rt_str rx, rt_str ry]; exact .inr (.inl ⟨_, _, rfl, rfl, hz, G _ _ (Same.refl _) (.str _)⟩)
    · exact G.elim
  · split at G
    · rename_i hz
      obtain ⟨c, vs, rfl, h1, r1⟩ := rt_tup rx
      obtain ⟨d, ws, rfl, h2, r2⟩ := rt_tup ry
      refine .inr (.inr (.inl ⟨c, d, vs, ws, rfl, rfl, sqT_of h1, sqT_of h2, by rw [r1.length, r2.length]; exact hz, fun e => ?_, fun _ e => ?_, fun _ _ l hl => ?_⟩))
      · subst e
        cases r1
        exact G _ _ (Same.refl _) (.tup h2 r2)
      · subst e
        cases r2
        rw [List.append_nil] at G
        exact G _ _ (Same.refl _) (.tup h1 r1)
      · exact G _ _ (same_new hl) (new_tup (H := H) (S.step s) (r1.append r2) hl)
    · exact G.elim
  · split at G
    · rename_i hz
      exact .inr (.inr (.inr (cat_s S s rx ry hz fun v H' s' r' => G v H' s' (RepM.f_s S r'))))
    · exact G.elim
  · exact G.elim
/-- an operation of two ints -/
def intP (c : Int → Int → Bool) (g : Int → Int → PV) : PV → PV → R PV
  | .int a, .int b => if c a b = true then .ok (g a b) else .stuck
  | _, _ => .stuck
theorem intP_exc {c : Int → Int → Bool} {g : Int → Int → PV} (p q : PV) (k : Str) : intP c g p q ≠ .exc k := by
  unfold intP; split <;> (try split) <;> exact fun z => nomatch z
theorem s_int {K : PySem.W.Frag} {C : Int → Int → Prop} {c : Int → Int → Bool} {gv : Int → Int → V} {g : Int → Int → PV} (hc : ∀ a b, c a b = true → C a b) (hr : ∀ H O a b, Rep K H O (gv a b) (g a b)) : OpS K (rI C gv) .t .t .s (intP c g) := by
  intro H0 O0 σ ρ H H2 x y p q Q S s rx ry G
  unfold intP at G
  split at G
  · split at G
    · rename_i hz
      rw [rt_int rx, rt_int ry]; exact ⟨_, _, rfl, rfl, hc _ _ hz, G _ _ (Same.refl _) (hr _ _ _ _)⟩
    · exact G.elim
  · exact G.elim
theorem s_int0 {K : PySem.W.Frag} {gv : Int → Int → V} {g : Int → Int → PV} (hr : ∀ H O a b, Rep K H O (gv a b) (g a b)) : OpS K (rI0 gv) .t .t .s (intP (fun _ _ => true) g) := by
  intro H0 O0 σ ρ H H2 x y p q Q S s rx ry G
  unfold intP at G
  split at G
  · rw [if_pos rfl] at G
    rw [rt_int rx, rt_int ry]; exact ⟨_, _, rfl, rfl, G _ _ (Same.refl _) (hr _ _ _ _)⟩
  · exact G.elim
abbrev subP := intP (fun _ _ => true) fun a b => .int (a - b)
abbrev okMul (a b : Int) : Bool := decide (a.natAbs.log2 + b.natAbs.log2 < 100000000)
/-- factors of together less than a hundred million bits -/
def CMulV (i j : Int) : Prop := i.natAbs.log2 + j.natAbs.log2 < 100000000
theorem CMulV.okM {i j : Int} (h : CMulV i j) : IntMulOk i j := by
  have b : ∀ y : Int, Builtin.Int.intBits y ≤ y.natAbs.log2 + 1 := fun y => by unfold Builtin.Int.intBits; split <;> omega
  have h1 := b i
  have h2 := b j
  unfold CMulV at h
  exact CMulX.ok (show CMulX i j by unfold CMulX; omega)
theorem op_mulV {X : Cx} : OpR X (binaryOp .Mult) (rI CMulV fun i j => .int (i * j)) := opI fun _ _ _ _ _ _ _ hc q => mul_int q hc.okM
abbrev mulP := intP okMul fun a b => .int (a * b)
abbrev okDiv (_ b : Int) : Bool := decide (b ≠ 0) && decide (b.natAbs.log2 < 9000)
abbrev fdivP := intP okDiv fun a b => .int (a.fdiv b)
abbrev modP := intP (fun _ b => decide (b ≠ 0)) fun a b => .int (a.fmod b)
abbrev okPow (a b : Int) : Bool := decide (0 ≤ b) && decide (b ≤ 1000000) && decide (a.natAbs < 2 ^ 64)
abbrev powP := intP okPow fun a b => .int (a ^ b.toNat)
abbrev ltP := intP (fun _ _ => true) fun a b => .bl (decide (a < b))
abbrev leP := intP (fun _ _ => true) fun a b => .bl (decide (a ≤ b))
abbrev gtP := intP (fun _ _ => true) fun a b => .bl (decide (b < a))
abbrev geP := intP (fun _ _ => true) fun a b => .bl (decide (b ≤ a))
def CDivA (i j : Int) : Prop := j ≠ 0 ∧ j.natAbs.log2 < 9000
theorem op_fdivA {X : Cx} : OpR X (binaryOp .FloorDiv) (rI CDivA fun i j => .int (i.fdiv j)) := opI fun i j _ _ _ _ _ hc q => floordiv_int hc.1 q (.inl (PyProof.noPylong_of_log2 hc.2))
theorem okDiv_C (a b : Int) (h : okDiv a b = true) : CDivA a b := by
  rw [Bool.and_eq_true, decide_eq_true_eq, decide_eq_true_eq] at h; exact h
theorem okPow_C (a b : Int) (h : okPow a b = true) : CPow a b := by
  rw [Bool.and_eq_true, Bool.and_eq_true, decide_eq_true_eq, decide_eq_true_eq, decide_eq_true_eq] at h; exact ⟨h.1.1, h.1.2, h.2⟩
section
variable {X : Cx} {W : WX} {e a b c : Expr} {pos : Pos} {m : Md} {f g h : Rho → R PV}
theorem e_add (ha : EJ X W .t a f) (hb : EJ X W .t b g) : EJ X W .s (.BinOp a .Add b pos) (e2 addP f g) := e_op op_addP addP_exc (s_addP _) ha hb
theorem e_sub (ha : EJ X W .t a f) (hb : EJ X W .t b g) : EJ X W .s (.BinOp a .Sub b pos) (e2 subP f g) := e_op op_sub intP_exc (s_int0 fun _ _ _ _ => .int _) ha hb
theorem e_mul (ha : EJ X W .t a f) (hb : EJ X W .t b g) : EJ X W .s (.BinOp a .Mult b pos) (e2 mulP f g) := e_op op_mulV intP_exc (s_int (fun _ _ h => of_decide_eq_true h) fun _ _ _ _ => .int _) ha hb
theorem e_fdiv (ha : EJ X W .t a f) (hb : EJ X W .t b g) : EJ X W .s (.BinOp a .FloorDiv b pos) (e2 fdivP f g) := e_op op_fdivA intP_exc (s_int okDiv_C fun _ _ _ _ => .int _) ha hb
theorem e_mod (ha : EJ X W .t a f) (hb : EJ X W .t b g) : EJ X W .s (.BinOp a .Mod b pos) (e2 modP f g) := e_op op_modN intP_exc (s_int (fun _ _ h => of_decide_eq_true h) fun _ _ _ _ => .int _) ha hb
theorem e_pow (ha : EJ X W .t a f) (hb : EJ X W .t b g) : EJ X W .s (.BinOp a .Pow b pos) (e2 powP f g) := e_op op_pow intP_exc (s_int okPow_C fun _ _ _ _ => .int _) ha hb
theorem t_lt (ha : EJ X W .t a f) (hb : EJ X W .t b g) : TJ X W (.Compare a [.Lt] [b] pos) (tB1 (e2 ltP f g)) := t_cmp op_lt intP_exc (s_int0 fun _ _ _ _ => .bl _) ha hb (nomark _)
theorem t_gt (ha : EJ X W .t a f) (hb : EJ X W .t b g) : TJ X W (.Compare a [.Gt] [b] pos) (tB1 (e2 gtP f g)) := t_cmp op_gt intP_exc (s_int0 fun _ _ _ _ => .bl _) ha hb (nomark _)
def negP : PV → R PV
  | .int a => .ok (.int (-a))
  | _ => .stuck
end
mutual
def toD : PV → PyData
  | .non => .none
  | .bl b => .bool b
  | .int i => .int i
  | .str s => .str s
  | .tup l => .tuple (toDs l)
  | .lst l => .list (toDs l)
  | .frz l => .list (toDs l)
  | .dct | .dt _ | .obj _ _ _ => .dict []
def toDs : List PV → List PyData
  | [] => []
  | p :: ps => toD p :: toDs ps
end
mutual
def eqV' : PV → PV → Bool
  | .non, .non => true
  | .bl a, .bl b => a == b
  | .bl a, .int j => (if a then 1 else 0) == j
  | .int i, .bl b => i == (if b then 1 else 0)
  | .int i, .int j => i == j
  | .str x, .str y => x == y
  | .lst xs, .lst ys => eqVs xs ys
  | .lst xs, .frz ys => eqVs xs ys
  | .frz xs, .lst ys => eqVs xs ys
  | .frz xs, .frz ys => eqVs xs ys
  | .tup xs, .tup ys => eqVs xs ys
  | _, _ => false
def eqVs : List PV → List PV → Bool
  | [], [] => true
  | x :: xs, y :: ys => eqV' x y && eqVs xs ys
  | _, _ => false
end
/-- data that may be compared, by how deep it is -/
def okD : Nat → PV → Bool
  | _, .non => true
  | _, .bl _ => true
  | _, .int _ => true
  | _, .str s => PySem.PyData.strOk s
  | n + 1, .tup l => l.all (okD n)
  | n + 1, .lst l => l.all (okD n)
  | n + 1, .frz l => l.all (okD n)
  | _, _ => false
def eqP (p q : PV) : R PV := if (okD 30 p && okD 30 q) = true then .ok (.bl (eqV' p q)) else .stuck
def neP (p q : PV) : R PV := if (okD 30 p && okD 30 q) = true then .ok (.bl (!eqV' p q)) else .stuck
mutual
theorem eqv_toD : ∀ p q : PV, PyData.eqv (toD p) (toD q) = eqV' p q
  | .lst a, .lst b | .lst a, .frz b | .frz a, .lst b | .frz a, .frz b | .tup a, .tup b => by simp only [toD, PyData.eqv, eqV', eqv_toDs a b]
  | .non, q | .bl _, q | .int _, q | .str _, q | .dct, q | .dt _, q | .obj _ _ _, q => by cases q <;> simp only [toD, PyData.eqv, eqV']
  | .lst a, .non | .lst a, .bl _ | .lst a, .int _ | .lst a, .str _ | .lst a, .tup _ | .lst a, .dct | .lst a, .dt _ | .lst a, .obj _ _ _ => by simp only [toD, PyData.eqv, eqV']
  | .frz a, .non | .frz a, .bl _ | .frz a, .int _ | .frz a, .str _ | .frz a, .tup _ | .frz a, .dct | .frz a, .dt _ | .frz a, .obj _ _ _ => by simp only [toD, PyData.eqv, eqV']
  | .tup a, .non | .tup a, .bl _ | .tup a, .int _ | .tup a, .str _ | .tup a, .lst _ | .tup a, .frz _ | .tup a, .dct | .tup a, .dt _ | .tup a, .obj _ _ _ => by simp only [toD, PyData.eqv, eqV']
theorem eqv_toDs : ∀ p q : List PV, PyData.eqvAll (toDs p) (toDs q) = eqVs p q
  | [], [] => by simp only [toDs, PyData.eqvAll, eqVs]
  | x :: xs, y :: ys => by simp only [toDs, PyData.eqvAll, eqVs, eqv_toD x y, eqv_toDs xs ys]
  | [], _ :: _ => by simp only [toDs, PyData.eqvAll, eqVs]
  | _ :: _, [] => by simp only [toDs, PyData.eqvAll, eqVs]
end
mutual
theorem okD_lay : ∀ (n : Nat) (p : PV), okD n p = true → (toD p).canLay0 = true ∧ (toD p).depth ≤ n
  | n, .non, _ => ⟨rfl, Nat.zero_le _⟩
  | n, .bl _, _ => ⟨rfl, Nat.zero_le _⟩
  | n, .int _, _ => ⟨rfl, Nat.zero_le _⟩
  | n, .str s, h => ⟨by simpa only [toD, PyData.canLay0, okD] using h, Nat.zero_le _⟩
  | n, .dct, h | n, .dt _, h | n, .obj _ _ _, h => by simp [okD] at h
  | 0, .tup l, h => by simp [okD] at h
  | 0, .lst l, h => by simp [okD] at h
  | 0, .frz l, h => by simp [okD] at h
  | n + 1, .tup l, h => by
    have z := okDs_lay n l (by simpa only [okD] using h)
    simp only [toD, PyData.canLay0, PyData.depth]
    exact ⟨z.1, by omega⟩
  | n + 1, .lst l, h => by
    have z := okDs_lay n l (by simpa only [okD] using h)
    simp only [toD, PyData.canLay0, PyData.depth]
    exact ⟨z.1, by omega⟩
  | n + 1, .frz l, h => by
    have z := okDs_lay n l (by simpa only [okD] using h)
    simp only [toD, PyData.canLay0, PyData.depth]
    exact ⟨z.1, by omega⟩
theorem okDs_lay : ∀ (n : Nat) (l : List PV), l.all (okD n) = true → PyData.canLayAll0 (toDs l) = true ∧ PyData.depthAll (toDs l) ≤ n
  | n, [], _ => ⟨rfl, Nat.zero_le _⟩
  | n, p :: ps, h => by
    rw [List.all_cons, Bool.and_eq_true] at h
    have z1 := okD_lay n p h.1
    have z2 := okDs_lay n ps h.2
    simp only [toDs, PyData.canLayAll0, PyData.depthAll, z1.1, z2.1]
    exact ⟨rfl, Nat.max_le.mpr ⟨z1.2, z2.2⟩⟩
end
theorem okD_shaped {p : PV} (h : okD 30 p = true) : SeqAt.shaped (toD p) = true := by
  have z := okD_lay 30 p h
  unfold SeqAt.shaped
  rw [z.1, decide_eq_true (show (toD p).depth ≤ 64 by omega)] <;> rfl
theorem dpAll_ints {K : PySem.W.Frag} {H : Hp} : ∀ ns : List Int, DpAll K H (ns.map V.int) (toDs (ns.map PV.int))
  | [] => by simp only [List.map_nil, toDs]; exact .nil
  | n :: ns => by simp only [List.map_cons, toDs, toD]; exact .cons (.int n) (dpAll_ints ns)
mutual
theorem rep_dp {K : PySem.W.Frag} {H : Hp} {O : Addr → Prop} : ∀ {v : V} {p : PV} (n : Nat), Rep K H O v p → okD n p = true → Dp K H v (toD p)
  | _, _, _, .non, _ => by simp only [toD]; exact .non
  | _, _, _, .bl b, _ => by simp only [toD]; exact .bl b
  | _, _, _, .int i, _ => by simp only [toD]; exact .int i
  | _, _, _, .str s, _ => by simp only [toD]; exact .str s
  | _, _, 0, .lst _ _ _, h => by simp [okD] at h
  | _, _, n + 1, .lst h1 _ r, h => by simp only [toD]; exact .lst (.inl (.inl h1)) (reps_dp n r (by simpa only [okD] using h))
  | _, _, 0, .tup _ _, h => by simp [okD] at h
  | _, _, n + 1, .tup h1 r, h => by simp only [toD]; exact .tup (sqT_of h1) (reps_dp n r (by simpa only [okD] using h))
  | _, _, _, .frz h1, h => by
    simp only [toD]
    refine .lst ?_ (dpAll_ints _)
    rcases h1 with ⟨⟨o, h1⟩, _⟩ | h1
    · exact .inl (.inr ⟨o, h1⟩)
    · exact h1 _
  | _, _, n, .dct _ _, h | _, _, n, .dt _ _, h | _, _, n, .obj _ _ _ _ _, h => by simp [okD] at h
theorem reps_dp {K : PySem.W.Frag} {H : Hp} {O : Addr → Prop} : ∀ {v : List V} {p : List PV} (n : Nat), Reps K H O v p → p.all (okD n) = true → DpAll K H v (toDs p)
  | _, _, _, .nil, _ => by simp only [toDs]; exact .nil
  | _, _, n, .cons h r, hz => by
    rw [List.all_cons, Bool.and_eq_true] at hz
    simp only [toDs]
    exact .cons (rep_dp n h hz.1) (reps_dp n r hz.2)
end
theorem rt_dp {K : PySem.W.Frag} {H H2 : Hp} {O0 : Addr → Prop} {σ : St} {ρ : Rho} {x : V} {p : PV} (r : RepM K O0 σ ρ .t H H2 x p) (h : okD 30 p = true) : Dp K H2 x (toD p) := by
  rcases r with r | ⟨a, vs, ps, rfl, rfl, e3, e4⟩
  · exact rep_dp 30 r h
  · simp only [toD]; exact .lst (.inl (.inl e3)) (reps_dp 29 e4 (by simpa only [okD] using h))
theorem eqP_exc (p q : PV) (c : Str) : eqP p q ≠ .exc c := by unfold eqP; split <;> exact fun z => nomatch z
theorem neP_exc (p q : PV) (c : Str) : neP p q ≠ .exc c := by unfold neP; split <;> exact fun z => nomatch z
theorem s_eq (K : PySem.W.Frag) : OpS K (rEqD K) .t .t .s eqP := by
  intro H0 O0 σ ρ H H2 x y p q Q S s rx ry G
  unfold eqP at G
  split at G
  · rename_i hz
    rw [Bool.and_eq_true] at hz
    exact ⟨_, _, rt_dp rx hz.1, rt_dp ry hz.2, okD_shaped hz.1, okD_shaped hz.2, by rw [eqv_toD]; exact G _ _ (Same.refl _) (.bl _)⟩
  · exact G.elim
theorem s_ne (K : PySem.W.Frag) : OpS K (rNeD K) .t .t .s neP := by
  intro H0 O0 σ ρ H H2 x y p q Q S s rx ry G
  unfold neP at G
  split at G
  · rename_i hz
    rw [Bool.and_eq_true] at hz
    exact ⟨_, _, rt_dp rx hz.1, rt_dp ry hz.2, okD_shaped hz.1, okD_shaped hz.2, by rw [eqv_toD]; exact G _ _ (Same.refl _) (.bl _)⟩
  · exact G.elim
section
variable {X : Cx} {W : WX} {e a b c : Expr} {pos : Pos} {m : Md} {f g h : Rho → R PV}
theorem e_eq (hu : X.A.units + 64 < cLine) (ha : EJ X W .t a f) (hb : EJ X W .t b g) : EJ X W .s (.Compare a [.Eq] [b] pos) (e2 eqP f g) := e_cmp (op_eqD hu) eqP_exc (s_eq _) ha hb (nomark _)
theorem e_ne (hu : X.A.units + 64 < cLine) (ha : EJ X W .t a f) (hb : EJ X W .t b g) : EJ X W .s (.Compare a [.NotEq] [b] pos) (e2 neP f g) := e_cmp (op_neD hu) neP_exc (s_ne _) ha hb (nomark _)
theorem t_eq (hu : X.A.units + 64 < cLine) (ha : EJ X W .t a f) (hb : EJ X W .t b g) : TJ X W (.Compare a [.Eq] [b] pos) (tB1 (e2 eqP f g)) := t_cmp (op_eqD hu) eqP_exc (s_eq _) ha hb (nomark _)
theorem t_ne (hu : X.A.units + 64 < cLine) (ha : EJ X W .t a f) (hb : EJ X W .t b g) : TJ X W (.Compare a [.NotEq] [b] pos) (tB1 (e2 neP f g)) := t_cmp (op_neD hu) neP_exc (s_ne _) ha hb (nomark _)
/-- is None -/
def isNP : PV → PV → R PV
  | .non, .non => .ok (.bl true)
  | _, .non => .ok (.bl false)
  | _, _ => .stuck
theorem isNP_exc (p q : PV) (c : Str) : isNP p q ≠ .exc c := by unfold isNP; split <;> exact fun z => nomatch z
theorem rt_notnon {K : PySem.W.Frag} {H H2 : Hp} {O0 : Addr → Prop} {σ : St} {ρ : Rho} {x : V} {p : PV} (r : RepM K O0 σ ρ .t H H2 x p) (hp : p ≠ .non) : decide (x = .non) = false := by
  refine decide_eq_false fun e => ?_
  subst e
  rcases r with r | ⟨a, vs, ps, e1, _⟩
  · cases r; exact hp rfl
  · cases e1
theorem s_isN (K : PySem.W.Frag) : OpS K (fun x y H Q => y = .non ∧ Q (.bl (decide (x = .non))) H) .t .t .s isNP := by
  intro H0 O0 σ ρ H H2 x y p q Q S s rx ry G
  unfold isNP at G
  split at G
  · rw [rt_non rx, rt_non ry]; exact ⟨rfl, G _ _ (Same.refl _) (.bl true)⟩
  · rename_i hp
    rw [rt_non ry, rt_notnon rx (fun z => hp z)]; exact ⟨rfl, G _ _ (Same.refl _) (.bl false)⟩
  · exact G.elim
theorem t_isN (ha : EJ X W .t a f) (hb : EJ X W .t b g) : TJ X W (.Compare a [.Is] [b] pos) (tB1 (e2 isNP f g)) := t_cmp op_isN isNP_exc (s_isN _) ha hb (nomark _)
def eChain (g1 g2 : PV → PV → R PV) (f g h : Rho → R PV) : Rho → R PV := fun ρ => (f ρ).bind fun x => (g ρ).bind fun y => (g1 x y).bind fun z => (asB z).bind fun k => if k = true then (h ρ).bind fun w => g2 y w else .ok (.bl false)
theorem q_chain {r r' : R2} {g1 g2 : PV → PV → R PV} (hg1 : ∀ p q c, g1 p q ≠ .exc c) (hg2 : ∀ p q c, g2 p q ≠ .exc c) (ho : OpS X.K r .t .t .s g1) (ho' : OpS X.K r' .t .t .s g2) :
    ∀ σ H Q, tE X.K X.mg W .s (eChain g1 g2 f g h) σ H Q → tChain r r' (tE X.K X.mg W .t f) (tE X.K X.mg W .t g) (tE X.K X.mg W .t h) σ H Q := by
  intro σ H Q ⟨H0, O0, ρ, S, G⟩
  refine ⟨H0, O0, ρ, S, ?_⟩
  revert G
  unfold eChain
  cases f ρ with
  | stuck => exact False.elim
  | exc c => exact id
  | ok p =>
    intro G x H1 s1 r1
    refine ⟨H0, O0, ρ, S.step s1, ?_⟩
    revert G
    rw [R.bind_ok]
    cases g ρ with
    | stuck => exact False.elim
    | exc c => exact fun G C H' s' => G C H' (s1.trans s')
    | ok q =>
      intro G y H2 s2 r2
      refine ho S (s1.trans s2) (r1.step s2) (r2.back s1) ?_
      revert G
      rw [R.bind_ok]
      cases hz : g1 p q with
      | stuck => exact False.elim
      | exc c => exact absurd hz (hg1 p q c)
      | ok z =>
        intro G v H3 s3 r3
        revert G
        rw [R.bind_ok]
        cases z with
        | bl k =>
          intro G
          cases r3
          refine ⟨k, rfl, ?_⟩
          cases k with
          | false => rw [if_neg Bool.false_ne_true]; exact G _ _ ((s1.trans s2).trans s3) (.bl false)
          | true =>
            rw [if_pos rfl]
            have s123 := (s1.trans s2).trans s3
            refine ⟨H0, O0, ρ, S.step s123, ?_⟩
            have G' : Got X.K X.mg W O0 σ ρ .s H Q ((h ρ).bind fun w => g2 q w) := G
            revert G'
            cases h ρ with
            | stuck => exact False.elim
            | exc c => exact fun G C H' s' => G C H' (s123.trans s')
            | ok w =>
              intro G v H4 s4 r4
              exact ho' S (s123.trans s4) ((r2.back s1).step (s3.trans s4)) (r4.back s123) (Got.v (hg2 q w) (s123.trans s4) G)
        | _ => exact False.elim
theorem e_chain {op op' : CmpOp} {r r' : R2} {g1 g2 : PV → PV → R PV} (hr : OpR X (compareOp op) r) (hr' : OpR X (compareOp op') r') (hg1 : ∀ p q c, g1 p q ≠ .exc c) (hg2 : ∀ p q c, g2 p q ≠ .exc c) (ho : OpS X.K r .t .t .s g1) (ho' : OpS X.K r' .t .t .s g2)
    (ha : EJ X W .t a f) (hb : EJ X W .t b g) (hc : EJ X W .t c h) (hm : lastMarks [op, op'] [b, c] = false) : EJ X W .s (.Compare a [op, op'] [b, c] pos) (eChain g1 g2 f g h) :=
  pe_imp (pe_chain hr hr' ha hb hc hm) (q_chain hg1 hg2 ho ho')
theorem e_leLt (ha : EJ X W .t a f) (hb : EJ X W .t b g) (hc : EJ X W .t c h) (hm : lastMarks [.LtE, .Lt] [b, c] = false := by with_unfolding_all rfl) : EJ X W .s (.Compare a [.LtE, .Lt] [b, c] pos) (eChain leP ltP f g h) :=
  e_chain op_le op_lt intP_exc intP_exc (s_int0 fun _ _ _ _ => .bl _) (s_int0 fun _ _ _ _ => .bl _) ha hb hc hm
end
end PL
set_option Elab.async false
set_option linter.all false
set_option maxRecDepth 100000
set_option autoImplicit false
namespace PL
open PySem PySem.Spec L2
open PyProof.Rows hiding St
def ixP : PV → PV → R PV
  | .lst l, .int i | .tup l, .int i | .frz l, .int i => match atI l i with
    | some p => .ok p
    | none => .stuck
  | .str s, .int i => if s.length ≤ sizeLine then (match atI s.cps.toList i with
    | some c => .ok (.str ⟨#[c]⟩)
    | none => .stuck) else .stuck
  | _, _ => .stuck
theorem ixP_exc (p q : PV) (c : Str) : ixP p q ≠ .exc c := by
  unfold ixP; split <;> (try split) <;> (try split) <;> exact fun z => nomatch z
theorem reps_at {K : PySem.W.Frag} {H : Hp} {O : Addr → Prop} {vs : List V} {ps : List PV} {i : Int} {p : PV} (r : Reps K H O vs ps) (h : atI ps i = some p) : ∃ v, atI vs i = some v ∧ Rep K H O v p := by
  unfold atI at h ⊢
  rw [r.length]
  cases q : ixN ps.length i with
  | none => rw [q] at h; cases h
  | some j =>
    rw [q, Option.bind_some] at h
    rw [Option.bind_some]
    exact r.get h
theorem s_ix (K : PySem.W.Frag) : OpS K (rIx K) .t .t .s ixP := by
  intro H0 O0 σ ρ H H2 x y p q Q S s rx ry G
  unfold ixP at G
  split at G
  · split at G
    · rename_i p hp
      obtain ⟨a, vs, rfl, h1, r1⟩ := rt_lst rx
      obtain ⟨v, h2, r2⟩ := reps_at r1 hp
      exact .inl ⟨a, vs, _, v, rfl, rt_int ry, .inl (.inl h1), h2, G _ _ (Same.refl _) r2⟩
    · exact G.elim
  · split at G
    · rename_i p hp
      obtain ⟨a, vs, rfl, h1, r1⟩ := rt_tup rx
      obtain ⟨v, h2, r2⟩ := reps_at r1 hp
      exact .inr (.inl ⟨a, vs, _, v, rfl, rt_int ry, sqT_of h1, h2, G _ _ (Same.refl _) r2⟩)
    · exact G.elim
  · split at G
    · rename_i p hp
      obtain ⟨a, ns, rfl, rfl, h1⟩ := rt_frz rx
      obtain ⟨v, h2, r2⟩ := reps_at (K := K) (H := H2) (O := OO O0 σ ρ) (Reps.ofInts ns) hp
      exact .inl ⟨a, _, _, v, rfl, rt_int ry, h1, h2, G _ _ (Same.refl _) r2⟩
    · exact G.elim
  · split at G
    · rename_i hz
      split at G
      · rename_i c hc
        exact .inr (.inr ⟨_, _, c, rt_str rx, rt_int ry, hz, hc, G _ _ (Same.refl _) (.str _)⟩)
      · exact G.elim
    · exact G.elim
  · exact G.elim
def cutG {α : Type} (xs : List α) (lo hi : Option Int) : List α := (xs.drop (HT.sIx xs.length 0 lo)).take (HT.sIx xs.length xs.length hi - HT.sIx xs.length 0 lo)
theorem reps_cut {K : PySem.W.Frag} {H : Hp} {O : Addr → Prop} {vs : List V} {ps : List PV} (lo hi : Option Int) (r : Reps K H O vs ps) : Reps K H O (cutV vs lo hi) (cutG ps lo hi) := by
  unfold cutV cutG
  rw [r.length]
  exact (r.drop _).take _
def slP (p : PV) (lo hi : Option Int) : R PV := match p with
  | .lst l | .frz l => .ok (.lst (cutG l lo hi))
  | .tup l => .ok (.tup (cutG l lo hi))
  | .str s => if s.length ≤ sizeLine then .ok (.str (cutS s lo hi)) else .stuck
  | _ => .stuck
def slL (p : PV) (lo hi : Option Int) : R PV := match p with
  | .lst l | .frz l => .ok (.lst (cutG l lo hi))
  | _ => .stuck
def asI : PV → R Int
  | .int i => .ok i
  | _ => .stuck
def oNone : Rho → R (Option Int) := fun _ => .ok none
def oSome (f : Rho → R PV) : Rho → R (Option Int) := fun ρ => (f ρ).bind fun p => (asI p).bind fun i => .ok (some i)
def eSl (g : PV → Option Int → Option Int → R PV) (f : Rho → R PV) (lo hi : Rho → R (Option Int)) : Rho → R PV := fun ρ => (f ρ).bind fun p => (lo ρ).bind fun l => (hi ρ).bind fun h => g p l h
def tO' (K : PySem.W.Frag) (mg : Str → Option Value) (W : WX) (f : Rho → R (Option Int)) : L2.TO := fun σ H Q =>
  ∃ H0 O0 ρ, StR K H0 O0 H σ ρ ∧ (match f ρ with
    | .ok o => ∀ H', Same H H' → Q o H'
    | .exc c => ∀ C H', Same H H' → mg c = some (.ref C) → W (.ref C) none σ H'
    | .stuck => False)
abbrev OJ (X : Cx) (W : WX) (e : Option Expr) (f : Rho → R (Option Int)) : Prop := PO X e (tO' X.K X.mg W f)
def SlS (K : PySem.W.Frag) (r : V → Option Int → Option Int → Hp → VK → Prop) (m : Md) (g : PV → Option Int → Option Int → R PV) : Prop :=
  ∀ {H0 O0 σ ρ H H2 x p lo hi} {Q : VK}, StR K H0 O0 H σ ρ → Same H H2 → RepM K O0 σ ρ .t H H2 x p → GotV K O0 σ ρ m H H2 Q (g p lo hi) → r x lo hi H2 Q
section
variable {X : Cx} {W : WX} {e a b c : Expr} {pos p2 : Pos} {m : Md} {f g h : Rho → R PV} {lo hi : Option Expr} {fl fh : Rho → R (Option Int)}
theorem po_imp {t t' : L2.TO} {e : Option Expr} (h : PO X e t) (q : ∀ σ H Q, t' σ H Q → t σ H Q) : PO X e t' := ⟨fun pins s σ H Q I hw => h.run pins s σ H Q I (q σ H Q hw)⟩
theorem o_none : OJ X W none oNone := by
  refine po_imp po_none fun σ H Q ⟨H0, O0, ρ, S, G⟩ => ?_
  exact G H (Same.refl H)
theorem o_some (ha : EJ X W .s e f) : OJ X W (some e) (oSome f) := by
  refine po_imp (po_some ha) fun σ H Q ⟨H0, O0, ρ, S, G⟩ => ⟨H0, O0, ρ, S, ?_⟩
  revert G
  unfold oSome
  cases f ρ with
  | stuck => exact False.elim
  | exc c => exact fun G => G
  | ok p =>
    cases p with
    | int i => exact fun G v H' s r => by cases r; exact ⟨i, rfl, G H' s⟩
    | _ => exact False.elim
theorem e_sl {r : V → Option Int → Option Int → Hp → VK → Prop} {g' : PV → Option Int → Option Int → R PV} (hr : SlR X r) (hg : ∀ p l h c, g' p l h ≠ .exc c) (ho : SlS X.K r m g') (ha : EJ X W .t a f) (hl : OJ X W lo fl) (hh : OJ X W hi fh) :
    EJ X W m (.Subscript a (.Slice lo hi none p2) pos) (eSl g' f fl fh) := by
  refine pe_imp (pe_slice hr ha hl hh) fun σ H Q ⟨H0, O0, ρ, S, G⟩ => ⟨H0, O0, ρ, S, ?_⟩
  revert G
  unfold eSl
  cases f ρ with
  | stuck => exact False.elim
  | exc c => exact fun G => G
  | ok p =>
    intro G x H1 s1 r1
    refine ⟨H0, O0, ρ, S.step s1, ?_⟩
    revert G
    rw [R.bind_ok]
    cases fl ρ with
    | stuck => exact False.elim
    | exc c => exact fun G C H' s' => G C H' (s1.trans s')
    | ok l =>
      intro G H2 s2
      refine ⟨H0, O0, ρ, S.step (s1.trans s2), ?_⟩
      revert G
      rw [R.bind_ok]
      cases fh ρ with
      | stuck => exact False.elim
      | exc c => exact fun G C H' s' => G C H' ((s1.trans s2).trans s')
      | ok h =>
        intro G H3 s3
        exact ho S ((s1.trans s2).trans s3) (r1.step (s2.trans s3)) (Got.v (hg p l h) ((s1.trans s2).trans s3) G)
def rSlP (K : PySem.W.Frag) : V → Option Int → Option Int → Hp → VK → Prop := fun x lo hi H Q => rSlL K x lo hi H Q ∨ rSlA K x lo hi H Q ∨ rSlS x lo hi H Q
theorem sl_P : SlR X (rSlP X.K) := sl_list.or (sl_tupA.or sl_str)
theorem slP_exc (p : PV) (l h : Option Int) (c : Str) : slP p l h ≠ .exc c := by
  unfold slP; split <;> (try split) <;> exact fun z => nomatch z
theorem sl_ints (ns : List Int) (lo hi : Option Int) : cutV (ns.map V.int) lo hi = (cutG ns lo hi).map V.int ∧ cutG (ns.map PV.int) lo hi = (cutG ns lo hi).map PV.int := by
  unfold cutV cutG
  rw [List.length_map, List.length_map, List.map_take, List.map_drop, List.map_take, List.map_drop]
  exact ⟨rfl, rfl⟩
theorem s_slL (K : PySem.W.Frag) : SlS K (rSlL K) .f slL := by
  intro H0 O0 σ ρ H H2 x p lo hi Q S s rx G
  unfold slL at G
  split at G
  · obtain ⟨a, vs, rfl, h1, r1⟩ := rt_lst rx
    exact ⟨a, vs, rfl, .inl (.inl h1), fun q hq => G _ _ (same_new hq) (new_lst (H0 := H0) s (reps_cut lo hi r1) hq)⟩
  · obtain ⟨a, ns, rfl, rfl, h1⟩ := rt_frz rx
    refine ⟨a, _, rfl, h1, fun q hq => G _ _ (same_new hq) ?_⟩
    rw [(sl_ints ns lo hi).1, (sl_ints ns lo hi).2]
    exact new_lst (H0 := H0) s (Reps.ofInts _) hq
  · exact G.elim
theorem s_slP (K : PySem.W.Frag) : SlS K (rSlP K) .s slP := by
  intro H0 O0 σ ρ H H2 x p lo hi Q S s rx G
  unfold slP at G
  split at G
  · exact .inl (s_slL K S s rx fun v H' s' r => G v H' s' (RepM.f_s S r))
  · exact .inl (s_slL K S s rx fun v H' s' r => G v H' s' (RepM.f_s S r))
  · obtain ⟨a, vs, rfl, h1, r1⟩ := rt_tup rx
    refine .inr (.inl ⟨a, vs, rfl, sqT_of h1, fun ⟨z1, z2⟩ => ?_, fun _ q hq => G _ _ (same_new hq) (new_tup (H := H) (S.step s) (reps_cut lo hi r1) hq)⟩)
    have e : ∀ {α : Type} (l : List α), l.length = vs.length → cutG l lo hi = l := fun l hl => by
      unfold cutG
      rw [hl, z1, z2, List.drop_zero, Nat.sub_zero, ← hl, List.take_length]
    rw [e _ r1.length.symm] at G
    exact G _ _ (Same.refl _) (.tup h1 r1)
  · split at G
    · rename_i hz
      exact .inr (.inr ⟨_, rt_str rx, hz, G _ _ (Same.refl _) (.str _)⟩)
    · exact G.elim
  · exact G.elim
theorem e_slice (ha : EJ X W .t a f) (hl : OJ X W lo fl) (hh : OJ X W hi fh) : EJ X W .s (.Subscript a (.Slice lo hi none p2) pos) (eSl slP f fl fh) := e_sl sl_P slP_exc (s_slP _) ha hl hh
theorem e_item (ha : EJ X W .t a f) (hb : EJ X W .t b g) (hs : PlainIx b) : EJ X W .s (.Subscript a b pos) (e2 ixP f g) := e_ix ix_seq ixP_exc (s_ix _) ha hb hs
end
def lenP : List PV → R PV
  | [.lst l] | [.tup l] | [.frz l] => .ok (.int l.length)
  | [.str s] => if s.length ≤ sizeLine then .ok (.int s.length) else .stuck
  | _ => .stuck
def absP : List PV → R PV
  | [.int i] => .ok (.int (if i < 0 then -i else i))
  | _ => .stuck
def listP : List PV → R PV
  | [.lst l] | [.tup l] | [.frz l] => .ok (.lst l)
  | _ => .stuck
def tupleP : List PV → R PV
  | [.lst l] | [.tup l] | [.frz l] => .ok (.tup l)
  | _ => .stuck
def asBs : List PV → Option (List Bool)
  | [] => some []
  | .bl b :: r => (asBs r).map (b :: ·)
  | _ => none
def allP : List PV → R PV
  | [.lst l] => match asBs l with
    | some bs => .ok (.bl (bs.all id))
    | none => .stuck
  | _ => .stuck
def anyP : List PV → R PV
  | [.lst l] => match asBs l with
    | some bs => .ok (.bl (bs.any id))
    | none => .stuck
  | _ => .stuck
def strP : List PV → R PV
  | [.int i] => if i.natAbs.log2 < 1920 then .ok (.str (toString i)) else .stuck
  | _ => .stuck
theorem asBs_map : ∀ {l : List PV} {bs : List Bool}, asBs l = some bs → l = bs.map PV.bl
  | [], _, h => by cases h; rfl
  | .bl b :: r, bs, h => by
    unfold asBs at h
    obtain ⟨cs, h1, rfl⟩ := Option.map_eq_some_iff.mp h
    rw [asBs_map h1]; rfl
  | .non :: _, _, h | .int _ :: _, _, h | .str _ :: _, _, h | .tup _ :: _, _, h | .lst _ :: _, _, h | .frz _ :: _, _, h | .dct :: _, _, h | .dt _ :: _, _, h | .obj _ _ _ :: _, _, h => by simp [asBs] at h
theorem asBs_of : ∀ bs : List Bool, asBs (bs.map PV.bl) = some bs
  | [] => rfl
  | b :: bs => by simp [asBs, asBs_of bs]
section
variable {X : Cx} {W : WX}
theorem pr1 {F : V → PV → Prop} {vs : List V} {p : PV} (h : Paired F vs [p]) : ∃ v, vs = [v] ∧ F v p := by
  cases h with
  | cons a r => cases r; exact ⟨_, rfl, a⟩
theorem pr2 {F : V → PV → Prop} {vs : List V} {p q : PV} (h : Paired F vs [p, q]) : ∃ v w, vs = [v, w] ∧ F v p ∧ F w q := by
  cases h with
  | cons a r =>
    obtain ⟨w, rfl, b⟩ := pr1 r
    exact ⟨_, _, rfl, a, b⟩
theorem s_len (K : PySem.W.Frag) : CallS K (fun xs H Q => ∃ x n, xs = [x] ∧ LenV K x H n ∧ Q (.int n) H) .t .s lenP := by
  intro H0 O0 σ ρ H H2 xs ps Q S s r G
  unfold lenP at G
  split at G
  · obtain ⟨v, rfl, r1⟩ := pr1 r
    obtain ⟨a, vs, rfl, h1, r2⟩ := rt_lst r1
    exact ⟨_, vs.length, rfl, .inl ⟨vs, .inl (.inl h1), rfl⟩, by rw [r2.length]; exact G _ _ (Same.refl _) (.int _)⟩
  · obtain ⟨v, rfl, r1⟩ := pr1 r
    obtain ⟨a, vs, rfl, h1, r2⟩ := rt_tup r1
    exact ⟨_, vs.length, rfl, .inr ⟨vs, sqT_of h1, rfl⟩, by rw [r2.length]; exact G _ _ (Same.refl _) (.int _)⟩
  · obtain ⟨v, rfl, r1⟩ := pr1 r
    obtain ⟨a, ns, rfl, rfl, h1⟩ := rt_frz r1
    refine ⟨_, _, rfl, .inl ⟨_, h1, rfl⟩, ?_⟩
    rw [List.length_map] at G ⊢
    exact G _ _ (Same.refl _) (.int _)
  · split at G
    · rename_i hz
      obtain ⟨v, rfl, r1⟩ := pr1 r
      rw [rt_str r1]
      exact ⟨_, _, rfl, ⟨hz, rfl⟩, G _ _ (Same.refl _) (.int _)⟩
    · exact G.elim
  · exact G.elim
theorem s_tuple (K : PySem.W.Frag) : CallS K (fun xs H Q => ∃ p ys, xs = [.ref p] ∧ ((SqL K H p ys ∧ ∀ l, H l = none → Q (.ref l) (upd H l (.tup ys))) ∨ (SqT K H p ys ∧ Q (.ref p) H))) .t .s tupleP := by
  intro H0 O0 σ ρ H H2 xs ps Q S s r G
  unfold tupleP at G
  split at G
  · obtain ⟨v, rfl, r1⟩ := pr1 r
    obtain ⟨a, vs, rfl, h1, r2⟩ := rt_lst r1
    exact ⟨a, vs, rfl, .inl ⟨.inl (.inl h1), fun l hl => G _ _ (same_new hl) (new_tup (H := H) (S.step s) r2 hl)⟩⟩
  · obtain ⟨v, rfl, r1⟩ := pr1 r
    obtain ⟨a, vs, rfl, h1, r2⟩ := rt_tup r1
    exact ⟨a, vs, rfl, .inr ⟨sqT_of h1, G _ _ (Same.refl _) (.tup h1 r2)⟩⟩
  · obtain ⟨v, rfl, r1⟩ := pr1 r
    obtain ⟨a, ns, rfl, rfl, h1⟩ := rt_frz r1
    exact ⟨a, _, rfl, .inl ⟨h1, fun l hl => G _ _ (same_new hl) (new_tup (H := H) (S.step s) (Reps.ofInts ns) hl)⟩⟩
  · exact G.elim
theorem s_all (K : PySem.W.Frag) : CallS K (rAll K) .t .s allP := by
  intro H0 O0 σ ρ H H2 xs ps Q S s r G
  unfold allP at G
  split at G
  · split at G
    · rename_i bs hbs
      obtain ⟨v, rfl, r1⟩ := pr1 r
      rw [asBs_map hbs] at r1
      obtain ⟨a, vs, rfl, h1, r2⟩ := rt_lst r1
      rw [r2.bls] at h1
      exact ⟨a, bs, rfl, .inl (.inl h1), G _ _ (Same.refl _) (.bl _)⟩
    · exact G.elim
  · exact G.elim
theorem s_any (K : PySem.W.Frag) : CallS K (rAny K) .t .s anyP := by
  intro H0 O0 σ ρ H H2 xs ps Q S s r G
  unfold anyP at G
  split at G
  · split at G
    · rename_i bs hbs
      obtain ⟨v, rfl, r1⟩ := pr1 r
      rw [asBs_map hbs] at r1
      obtain ⟨a, vs, rfl, h1, r2⟩ := rt_lst r1
      rw [r2.bls] at h1
      exact ⟨a, bs, rfl, .inl (.inl h1), G _ _ (Same.refl _) (.bl _)⟩
    · exact G.elim
  · exact G.elim
theorem s_str (K : PySem.W.Frag) : CallS K (fun xs H Q => ∃ i, xs = [.int i] ∧ i.natAbs.log2 < 1920 ∧ Q (.str (toString i)) H) .t .s strP := by
  intro H0 O0 σ ρ H H2 xs ps Q S s r G
  unfold strP at G
  split at G
  · split at G
    · rename_i hz
      obtain ⟨v, rfl, r1⟩ := pr1 r
      rw [rt_int r1]
      exact ⟨_, rfl, hz, G _ _ (Same.refl _) (.str _)⟩
    · exact G.elim
  · exact G.elim
theorem lenP_exc (ps : List PV) (c : Str) : lenP ps ≠ .exc c := by unfold lenP; split <;> (try split) <;> exact fun z => nomatch z
theorem tupleP_exc (ps : List PV) (c : Str) : tupleP ps ≠ .exc c := by unfold tupleP; split <;> exact fun z => nomatch z
theorem allP_exc (ps : List PV) (c : Str) : allP ps ≠ .exc c := by unfold allP; split <;> (try split) <;> exact fun z => nomatch z
theorem anyP_exc (ps : List PV) (c : Str) : anyP ps ≠ .exc c := by unfold anyP; split <;> (try split) <;> exact fun z => nomatch z
theorem strP_exc (ps : List PV) (c : Str) : strP ps ≠ .exc c := by unfold strP; split <;> (try split) <;> exact fun z => nomatch z
variable {e : Expr} {es : List Expr} {pos p : Pos} {fA : Rho → R (List PV)} {f : Rho → R PV}
theorem e_len (mg : X.mg "len" = none) (hg : Gl X "len") (ha : AJ X W .t [e] fA) (he : starEach [e] X.env = (false, eval e X.env) :: starEach [] X.env := by rfl) : EJ X W .s (.Call (.Name "len" p) [e] [] pos) (eD lenP fA) := e_callB call_len lenP_exc (s_len _) hg mg PySem.boot_len ha (he := he)
theorem e_tuple (mg : X.mg "tuple" = none) (hg : Gl X "tuple") (ha : AJ X W .t [e] fA) (he : starEach [e] X.env = (false, eval e X.env) :: starEach [] X.env := by rfl) : EJ X W .s (.Call (.Name "tuple" p) [e] [] pos) (eD tupleP fA) := e_callTy call_tuple_of tupleP_exc (s_tuple _) hg mg (by decide +kernel) ha (he := he)
theorem e_all (hc : X.calm = true) (mg : X.mg "all" = none) (hg : Gl X "all") (ha : AJ X W .t [e] fA) (he : starEach [e] X.env = (false, eval e X.env) :: starEach [] X.env := by rfl) : EJ X W .s (.Call (.Name "all" p) [e] [] pos) (eD allP fA) := e_callB (cr_all hc) allP_exc (s_all _) hg mg (by decide +kernel) ha (he := he)
theorem e_any (hc : X.calm = true) (mg : X.mg "any" = none) (hg : Gl X "any") (ha : AJ X W .t [e] fA) (he : starEach [e] X.env = (false, eval e X.env) :: starEach [] X.env := by rfl) : EJ X W .s (.Call (.Name "any" p) [e] [] pos) (eD anyP fA) := e_callB (cr_any hc) anyP_exc (s_any _) hg mg (by decide +kernel) ha (he := he)
theorem e_strI (mg : X.mg "str" = none) (hg : Gl X "str") (ha : AJ X W .t [e] fA) (he : starEach [e] X.env = (false, eval e X.env) :: starEach [] X.env := by rfl) : EJ X W .s (.Call (.Name "str" p) [e] [] pos) (eD strP fA) := e_callTy call_str_int strP_exc (s_str _) hg mg (by decide +kernel) ha (he := he)
def tyN : PV → String
  | .non => "NoneType" | .bl _ => "bool" | .int _ => "int" | .str _ => "str" | .tup _ => "tuple" | .lst _ => "list" | .frz _ => "list" | .dct => "dict" | .dt _ => "dict" | .obj _ _ _ => ""
def kitP (p : PV) (n : String) : Option Bool := match p with
  | .obj _ _ _ => if n ∈ (["int", "bool", "str", "tuple", "list", "dict"] : List String) then some false else none
  | p => kitB (tyN p) n
def isiP (n : String) (p : PV) : R PV := match kitP p n with
  | some b => .ok (.bl b)
  | none => .stuck
theorem rt_ty {K : PySem.W.Frag} {H H2 : Hp} {O0 : Addr → Prop} {σ : St} {ρ : Rho} {x : V} {p : PV} (r : RepM K O0 σ ρ .t H H2 x p) : ∃ T, TyX K H2 x T ∧ ∀ n b, kitP p n = some b → PySem.W.kitOne K T (.type n) = some b := by
  have kt : ∀ {t : String} {q : PV}, (∀ C ns fs, q ≠ .obj C ns fs) → tyN q = t → ∀ n b, kitP q n = some b → PySem.W.kitOne K (.type t) (.type n) = some b := fun {t q} hq ht n b h => by
    subst ht
    refine kit_ty ?_
    unfold kitP at h
    split at h
    · exact absurd rfl (hq _ _ _)
    · exact h
  rcases r with r | ⟨a, vs, ps, rfl, rfl, e3, e4⟩
  · cases r with
    | non => exact ⟨_, .base .non, kt (fun _ _ _ z => nomatch z) rfl⟩
    | bl b => exact ⟨_, .base (.bl b), kt (fun _ _ _ z => nomatch z) rfl⟩
    | int i => exact ⟨_, .base (.int i), kt (fun _ _ _ z => nomatch z) rfl⟩
    | str i => exact ⟨_, .base (.str i), kt (fun _ _ _ z => nomatch z) rfl⟩
    | lst h _ _ => exact ⟨_, .base (.lst h), kt (fun _ _ _ z => nomatch z) rfl⟩
    | tup h _ =>
      rcases h with ⟨h, _⟩ | ⟨o, its, n, h1, h2, _⟩
      · exact ⟨_, .base (.tup h), kt (fun _ _ _ z => nomatch z) rfl⟩
      · exact ⟨_, .kTuple h1 h2, kt (fun _ _ _ z => nomatch z) rfl⟩
    | frz h =>
      rcases h with ⟨⟨o, h⟩, _⟩ | h
      · exact ⟨_, .base (.frz h), kt (fun _ _ _ z => nomatch z) rfl⟩
      · rcases h fun _ => none with (h | ⟨_, h⟩) | ⟨o, its, n, h1, h2, _⟩
        · cases h
        · cases h
        · exact ⟨_, .kList h1 h2, kt (fun _ _ _ z => nomatch z) rfl⟩
    | dct h _ => exact ⟨_, .base (.dK h), kt (fun _ _ _ z => nomatch z) rfl⟩
    | dt h _ => exact ⟨_, .base (.dT h), kt (fun _ _ _ z => nomatch z) rfl⟩
    | obj h _ _ c _ =>
      refine ⟨_, .base (.ins h c.cl c.ha c.hn c.ht c.hm), fun n b h => ?_⟩
      unfold kitP at h
      dsimp only at h
      split at h
      · rename_i hn; cases h; exact c.kit n hn
      · cases h
  · exact ⟨_, .base (.lst e3), kt (fun _ _ _ z => nomatch z) rfl⟩
theorem e_isi {n : String} {en : Expr} (mg : X.mg "isinstance" = none) (hg : Gl X "isinstance") (ha : EJ X W .t e f) (hn : PE X en (tC (.ty n))) (he : starEach [e, en] X.env = (false, eval e X.env) :: starEach [en] X.env := by rfl) (he2 : starEach [en] X.env = (false, eval en X.env) :: starEach [] X.env := by rfl) (hpl : (backTo pos (starEach [en] X.env)).any (·.1) = false := by rfl) :
    EJ X W .s (.Call (.Name "isinstance" p) [e, en] [] pos) (e1 (isiP n) f) := by
  refine pe_imp (pe_callB call_isi hg mg PyProof.Rows.boot_isinstance (pa_cons ha (pa_cons hn pa_nil he2) he) (by decide) (by decide) he hpl) fun σ H Q ⟨H0, O0, ρ, S, G⟩ => ⟨H0, O0, ρ, S, ?_⟩
  revert G
  unfold e1
  cases f ρ with
  | stuck => exact False.elim
  | exc c => exact fun G => G
  | ok q =>
    intro G x H1 s1 r1
    rw [R.bind_ok] at G
    unfold isiP at G
    split at G
    · rename_i b hb
      obtain ⟨T, t1, t2⟩ := rt_ty r1
      exact ⟨x, .ty n, _, _, b, rfl, .ty n, t1, t2 _ _ hb, G _ _ s1 (.bl b)⟩
    · exact G.elim
def isiP2 (n m : String) (p : PV) : R PV := match kitP p n, kitP p m with
  | some b, some c => .ok (.bl (b || c))
  | _, _ => .stuck
theorem e_isi2 {n m : String} {en em : Expr} {pt : Pos} {k : Nat} (mg : X.mg "isinstance" = none) (hg : Gl X "isinstance") (ha : EJ X W .t e f) (hn : PE X en (tC (.ty n))) (hm : PE X em (tC (.ty m))) (he : starEach [e, .Tuple [en, em] k pt] X.env = (false, eval e X.env) :: starEach [.Tuple [en, em] k pt] X.env := by rfl)
    (he2 : starEach [.Tuple [en, em] k pt] X.env = (false, eval (.Tuple [en, em] k pt) X.env) :: starEach [] X.env := by rfl) (he3 : starEach [en, em] X.env = (false, eval en X.env) :: starEach [em] X.env := by rfl) (he4 : starEach [em] X.env = (false, eval em X.env) :: starEach [] X.env := by rfl) (hpl : (backTo pos (starEach [.Tuple [en, em] k pt] X.env)).any (·.1) = false := by rfl) :
    EJ X W .s (.Call (.Name "isinstance" p) [e, .Tuple [en, em] k pt] [] pos) (e1 (isiP2 n m) f) := by
  refine pe_imp (pe_callB call_isiT hg mg PyProof.Rows.boot_isinstance (pa_cons ha (pa_cons (pe_tup (pa_cons hn (pa_cons hm pa_nil he4) he3)) pa_nil he2) he) (by decide) (by decide) he hpl) fun σ H Q ⟨H0, O0, ρ, S, G⟩ => ⟨H0, O0, ρ, S, ?_⟩
  revert G
  unfold e1
  cases f ρ with
  | stuck => exact False.elim
  | exc c => exact fun G => G
  | ok q =>
    intro G x H1 s1 r1
    rw [R.bind_ok] at G
    unfold isiP2 at G
    split at G
    · rename_i b c hb hc
      refine ⟨by show 2 ≤ sizeLine; decide, fun t ht => ?_⟩
      obtain ⟨T, t1, t2⟩ := rt_ty (r1.step (same_new ht))
      refine ⟨x, t, [.ty n, .ty m], _, [.type n, .type m], b || c, rfl, upd_same, .cons (.ty n) (.cons (.ty m) .nil), t1, kitAny_cons (t2 _ _ hb) (fun e => ?_) (fun e => by rw [e]; rfl), G _ _ (s1.trans (same_new ht)) (.bl _)⟩
      rw [e, Bool.false_or]
      exact kitAny_cons (t2 _ _ hc) (fun e => by rw [e]; exact kitAny_nil) fun e => e
    · exact G.elim
end
end PL
set_option Elab.async false
set_option linter.all false
set_option maxRecDepth 100000
set_option autoImplicit false
namespace PL
open PySem PySem.Spec L2
open PyProof.Rows hiding St
def Kept (O : Addr → Prop) (H : Hp) (O' : Addr → Prop) (H' : Hp) : Prop := ∀ a o, H a = some o → ¬ O a → H' a = some o ∧ ¬ O' a
theorem Kept.refl (O : Addr → Prop) (H : Hp) : Kept O H O H := fun _ _ h n => ⟨h, n⟩
theorem Kept.trans {O O1 O2 : Addr → Prop} {H H1 H2 : Hp} (a : Kept O H O1 H1) (b : Kept O1 H1 O2 H2) : Kept O H O2 H2 := fun c o h n => b c o (a c o h n).1 (a c o h n).2
theorem Kept.same {O : Addr → Prop} {H H' : Hp} (s : Same H H') : Kept O H O H' := fun a o h n => ⟨s a o h, n⟩
structure ItOk (K : PySem.W.Frag) (J : It) (items : List PV) (O1 : Addr → Prop) (H1 : Hp) : Prop where
  go : ∀ i H O, Kept O1 H1 O H → i < items.length → J.go i H
  stop : ∀ i H O, Kept O1 H1 O H → items.length ≤ i → J.stop i H
  yld : ∀ i H O x H' p, Kept O1 H1 O H → (∀ a, O a → H a ≠ none) → items[i]? = some p → J.yld i H x H' → Same H H' ∧ Rep K H' O x p
def GotI (K : PySem.W.Frag) (mg : Str → Option Value) (W : WX) (O0 : Addr → Prop) (σ : St) (ρ : Rho) (H : Hp) (Q : It → Hp → Prop) : R (List PV) → Prop
  | .ok items => ∀ J H', Same H H' → ItOk K J items (OO O0 σ ρ) H' → Q J H'
  | .exc c => ∀ C H', Same H H' → mg c = some (.ref C) → W (.ref C) none σ H'
  | .stuck => False
def tI (K : PySem.W.Frag) (mg : Str → Option Value) (W : WX) (f : Rho → R (List PV)) : TI := fun σ H Q =>
  ∃ H0 O0 ρ, StR K H0 O0 H σ ρ ∧ GotI K mg W O0 σ ρ H Q (f ρ)
abbrev IJ (X : Cx) (W : WX) (tg it : Expr) (f : Rho → R (List PV)) : Prop := PI X tg it (tI X.K X.mg W f)
section
variable {X : Cx} {W : WX} {e e' e'' tg : Expr} {pos p : Pos} {f : Rho → R PV} {fA : Rho → R (List PV)} {K : PySem.W.Frag}
theorem pi_imp {t t' : TI} (h : PI X tg e t) (q : ∀ σ H Q, t' σ H Q → t σ H Q) : PI X tg e t' := ⟨fun pins s σ H Q I hw => h.run pins s σ H Q I (q σ H Q hw)⟩
/-- the items of a list, a tuple -/
def asL : PV → R (List PV)
  | .lst l | .frz l => .ok l
  | _ => .stuck
def asS : PV → R (List PV)
  | .lst l | .frz l | .tup l => .ok l
  | _ => .stuck
def iRv (f : Rho → R PV) : Rho → R (List PV) := fun ρ => (f ρ).bind fun p => (asS p).bind fun l => .ok l.reverse
theorem kept_reps {H H1 : Hp} {O O1 : Addr → Prop} (k : Kept O1 H1 O H) {v : V} {p : PV} (r : Rep K H1 O1 v p) : Rep K H O v p := r.mono k
theorem lst_it {H1 : Hp} {O1 : Addr → Prop} {a : Addr} {l : List PV} (r : Rep K H1 O1 (.ref a) (.lst l)) : ItOk K (Itl K a) l O1 H1 ∧ ∃ xs, SqL K H1 a xs := by
  cases r with
  | @lst _ vs _ h n r =>
    refine ⟨⟨fun i H O k hi => ?_, fun i H O k hi => ⟨vs, .inl (.inl (k _ _ h n).1), by rw [r.length]; exact hi⟩, fun i H O x H' p k _ hp hy => ?_⟩, vs, .inl (.inl h)⟩
    · obtain ⟨v, hv, _⟩ := r.get (List.getElem?_eq_getElem hi)
      exact ⟨vs, v, .inl (.inl (k _ _ h n).1), hv⟩
    · obtain ⟨rfl, hx⟩ := hy
      obtain ⟨q, hq, rq⟩ := r.get' (hx vs (.inl (.inl (k _ _ h n).1)))
      rw [hp] at hq; cases hq
      exact ⟨Same.refl _, kept_reps k rq⟩
theorem frz_it {H1 : Hp} {O1 : Addr → Prop} {a : Addr} {l : List PV} (r : Rep K H1 O1 (.ref a) (.frz l)) : ItOk K (Itl K a) l O1 H1 ∧ ∃ xs, SqL K H1 a xs := by
  generalize hl : PV.frz l = q at r
  cases r with
  | @frz _ ns h =>
    cases hl
    have sq : ∀ H O, Kept O1 H1 O H → SqL K H a (ns.map V.int) := fun H O k => by
      rcases h with ⟨⟨o, h⟩, n⟩ | h
      · exact .inl (.inr ⟨o, (k _ _ h n).1⟩)
      · exact h _
    refine ⟨⟨fun i H O k hi => ?_, fun i H O k hi => ⟨_, sq H O k, by simpa using hi⟩, fun i H O x H' p k _ hp hy => ?_⟩, _, sq _ _ (Kept.refl _ _)⟩
    · rw [List.length_map] at hi
      exact ⟨_, .int ns[i], sq H O k, by rw [List.getElem?_map, List.getElem?_eq_getElem hi]; rfl⟩
    · obtain ⟨rfl, hx⟩ := hy
      have hx := hx _ (sq _ O k)
      rw [List.getElem?_map] at hp hx
      cases hn : ns[i]? with
      | none => rw [hn] at hp; cases hp
      | some n =>
        rw [hn] at hp hx
        cases hp; cases hx
        exact ⟨Same.refl _, .int n⟩
  | _ => cases hl
theorem tup_it {H1 : Hp} {O1 : Addr → Prop} {a : Addr} {l : List PV} (r : Rep K H1 O1 (.ref a) (.tup l)) : ItOk K (Itt K a) l O1 H1 ∧ ∃ xs, SqT K H1 a xs := by
  cases r with
  | @tup _ vs _ h r =>
    have sq : ∀ H O, Kept O1 H1 O H → SqT K H a vs := fun H O k => by
      rcases h with ⟨h, n⟩ | h
      · exact .inl (.inl (k _ _ h n).1)
      · exact h.sq
    refine ⟨⟨fun i H O k hi => ?_, fun i H O k hi => ⟨vs, sq H O k, by rw [r.length]; exact hi⟩, fun i H O x H' p k _ hp hy => ?_⟩, vs, sq _ _ (Kept.refl _ _)⟩
    · obtain ⟨v, hv, _⟩ := r.get (List.getElem?_eq_getElem hi)
      exact ⟨vs, v, sq H O k, hv⟩
    · obtain ⟨rfl, hx⟩ := hy
      obtain ⟨q, hq, rq⟩ := r.get' (hx vs (sq _ O k))
      rw [hp] at hq; cases hq
      exact ⟨Same.refl _, kept_reps k rq⟩
/-- a PI by either of two readings -/
theorem pi_or {w1 w2 : TI} (h1 : PI X tg e w1) (h2 : PI X tg e w2) : PI X tg e (fun σ H R => w1 σ H R ∨ w2 σ H R) := ⟨fun pins s σ H R I hw => by
  rcases hw with hw | hw
  · exact h1.run pins s σ H R I hw
  · exact h2.run pins s σ H R I hw⟩
def iS (f : Rho → R PV) : Rho → R (List PV) := fun ρ => (f ρ).bind asS
theorem ref_of {H1 : Hp} {O1 : Addr → Prop} {v : V} {p : PV} (r : Rep K H1 O1 v p) (h : (∃ l, p = .lst l) ∨ (∃ l, p = .frz l) ∨ ∃ l, p = .tup l) : ∃ a, v = .ref a := by
  rcases h with ⟨l, rfl⟩ | ⟨l, rfl⟩ | ⟨l, rfl⟩
  · cases r; exact ⟨_, rfl⟩
  · generalize hl : PV.frz l = q at r
    cases r with
    | frz h => exact ⟨_, rfl⟩
    | _ => cases hl
  · cases r; exact ⟨_, rfl⟩
/-- a list or a tuple, walked -/
theorem i_seq (he : EJ X W .s e f) : IJ X W tg e (iS f) := by
  refine pi_imp (pi_or (L2.pi_list he) (L2.pi_tup he)) fun σ H Q ⟨H0, O0, ρ, S, G⟩ => ?_
  revert G
  unfold iS
  cases hf : f ρ with
  | stuck => exact False.elim
  | exc c => exact fun G => .inl ⟨H0, O0, ρ, S, by rw [hf]; exact G⟩
  | ok p =>
    cases p with
    | lst l =>
      intro G
      refine .inl ⟨H0, O0, ρ, S, ?_⟩
      rw [hf]
      intro v H1 s1 r1
      obtain ⟨a, rfl⟩ := ref_of r1 (.inl ⟨l, rfl⟩)
      obtain ⟨h1, h2⟩ := lst_it r1
      exact ⟨a, rfl, h2, G _ _ s1 h1⟩
    | frz l =>
      intro G
      refine .inl ⟨H0, O0, ρ, S, ?_⟩
      rw [hf]
      intro v H1 s1 r1
      obtain ⟨a, rfl⟩ := ref_of r1 (.inr (.inl ⟨l, rfl⟩))
      obtain ⟨h1, h2⟩ := frz_it r1
      exact ⟨a, rfl, h2, G _ _ s1 h1⟩
    | tup l =>
      intro G
      refine .inr ⟨H0, O0, ρ, S, ?_⟩
      rw [hf]
      intro v H1 s1 r1
      obtain ⟨a, rfl⟩ := ref_of r1 (.inr (.inr ⟨l, rfl⟩))
      obtain ⟨h1, h2⟩ := tup_it r1
      exact ⟨a, rfl, h2, G _ _ s1 h1⟩
    | _ => exact False.elim
theorem rev_ix {α : Type} {l : List α} {i : Nat} (h : i < l.length) : l.reverse[i]? = l[l.length - 1 - i]? := List.getElem?_reverse h
theorem i_rev (mg : X.mg "reversed" = none) (hg : Gl X "reversed") (he : EJ X W .s e f) (hs : starEach [e] X.env = (false, eval e X.env) :: starEach [] X.env := by rfl) : IJ X W tg (.Call (.Name "reversed" p) [e] [] pos) (iRv f) := by
  refine pi_imp (RT.pi_revA hg mg he hs) fun σ H Q ⟨H0, O0, ρ, S, G⟩ => ⟨H0, O0, ρ, S, ?_⟩
  revert G
  unfold iRv
  cases hf : f ρ with
  | stuck => exact False.elim
  | exc c => exact fun G => G
  | ok p =>
    cases p with
    | lst l =>
      intro G v H1 s1 r1
      cases (show Rep X.K H1 (OO O0 σ ρ) v (.lst l) from r1) with
      | @lst a vs _ h n r =>
        refine ⟨a, vs, rfl, .inl ⟨.inl (.inl h), G _ _ s1 ⟨fun i H O k hi => ?_, fun i H O k hi => ?_, fun i H O x H' p k _ hp hy => ?_⟩⟩⟩
        · rw [List.length_reverse] at hi
          refine ⟨by rw [r.length]; exact hi, vs, vs[vs.length - 1 - i]'(by rw [r.length]; omega), .inl (.inl (k _ _ h n).1), List.getElem?_eq_getElem _⟩
        · rw [List.length_reverse] at hi
          show vs.length ≤ i
          rw [r.length]; exact hi
        · obtain ⟨rfl, hx⟩ := hy
          have hi : i < l.length := by
            have := (List.getElem?_eq_some_iff.mp hp).1
            simpa using this
          rw [rev_ix hi] at hp
          obtain ⟨q, hq, rq⟩ := r.get' (hx vs (.inl (.inl (k _ _ h n).1)))
          rw [r.length] at hq
          rw [hp] at hq; cases hq
          exact ⟨Same.refl _, kept_reps k rq⟩
    | tup l =>
      intro G v H1 s1 r1
      cases (show Rep X.K H1 (OO O0 σ ρ) v (.tup l) from r1) with
      | @tup a vs _ h r =>
        have sq : ∀ H O, Kept (OO O0 σ ρ) H1 O H → SqT X.K H a vs := fun H O k => by
          rcases h with ⟨h, n⟩ | h
          · exact .inl (.inl (k _ _ h n).1)
          · exact h.sq
        refine ⟨a, vs, rfl, .inr ⟨sq _ _ (Kept.refl _ _), G _ _ s1 ⟨fun i H O k hi => ?_, fun i H O k hi => ?_, fun i H O x H' p k _ hp hy => ?_⟩⟩⟩
        · rw [List.length_reverse] at hi
          refine ⟨by rw [r.length]; exact hi, vs, vs[vs.length - 1 - i]'(by rw [r.length]; omega), sq H O k, List.getElem?_eq_getElem _⟩
        · rw [List.length_reverse] at hi
          show vs.length ≤ i
          rw [r.length]; exact hi
        · obtain ⟨rfl, hx⟩ := hy
          have hi : i < l.length := by
            have := (List.getElem?_eq_some_iff.mp hp).1
            simpa using this
          rw [rev_ix hi] at hp
          obtain ⟨q, hq, rq⟩ := r.get' (hx vs (sq _ O k))
          rw [r.length] at hq
          rw [hp] at hq; cases hq
          exact ⟨Same.refl _, kept_reps k rq⟩
    | frz l =>
      intro G v H1 s1 r1
      obtain ⟨a, rfl⟩ := ref_of r1 (.inr (.inl ⟨l, rfl⟩))
      generalize hl : PV.frz l = q at r1
      cases (show Rep X.K H1 (OO O0 σ ρ) (.ref a) q from r1) with
      | @frz a ns h =>
        cases hl
        have sq : ∀ H O, Kept (OO O0 σ ρ) H1 O H → SqL X.K H a (ns.map V.int) := fun H O k => by
          rcases h with ⟨⟨o, h⟩, n⟩ | h
          · exact .inl (.inr ⟨o, (k _ _ h n).1⟩)
          · exact h _
        refine ⟨a, _, rfl, .inl ⟨sq _ _ (Kept.refl _ _), G _ _ s1 ⟨fun i H O k hi => ?_, fun i H O k hi => ?_, fun i H O x H' p k _ hp hy => ?_⟩⟩⟩
        · rw [List.length_reverse, List.length_map] at hi
          refine ⟨by rw [List.length_map]; exact hi, _, (ns.map V.int)[(ns.map V.int).length - 1 - i]'(by rw [List.length_map]; omega), sq H O k, List.getElem?_eq_getElem _⟩
        · rw [List.length_reverse, List.length_map] at hi
          show (ns.map V.int).length ≤ i
          rw [List.length_map]; exact hi
        · obtain ⟨rfl, hx⟩ := hy
          have hi : i < (ns.map PV.int).length := by
            have := (List.getElem?_eq_some_iff.mp hp).1
            simpa using this
          rw [rev_ix hi] at hp
          have hx := hx _ (sq _ O k)
          rw [List.length_map] at hx hp
          rw [List.getElem?_map] at hp hx
          cases hn : ns[ns.length - 1 - i]? with
          | none => rw [hn] at hp; cases hp
          | some n =>
            rw [hn] at hp hx
            cases hp; cases hx
            exact ⟨Same.refl _, .int n⟩
      | _ => cases hl
    | _ => exact False.elim
/-- lo, lo + 1, .. -/
def rngL (lo : Int) (n : Nat) : List PV := (List.range n).map fun (i : Nat) => PV.int (lo + i)
theorem rngL_len (lo : Int) (n : Nat) : (rngL lo n).length = n := by unfold rngL; rw [List.length_map, List.length_range]
theorem rng_it (lo : Int) (n : Nat) (O1 : Addr → Prop) (H1 : Hp) : ItOk K (Itr lo n) (rngL lo n) O1 H1 := by
  refine ⟨fun i H O k hi => by rw [rngL_len] at hi; exact hi, fun i H O k hi => by rw [rngL_len] at hi; exact hi, fun i H O x H' p k _ hp hy => ?_⟩
  obtain ⟨rfl, rfl⟩ := hy
  unfold rngL at hp
  rw [List.getElem?_map] at hp
  cases hn : (List.range n)[i]? with
  | none => rw [hn] at hp; cases hp
  | some j =>
    rw [hn] at hp
    obtain ⟨h1, h2⟩ := List.getElem?_eq_some_iff.mp hn
    rw [List.getElem_range] at h2
    cases hp
    rw [h2]
    exact ⟨Same.refl _, .int _⟩
def rng2 : List PV → R (List PV)
  | [.int i, .int j] => .ok (rngL i (j - i).toNat)
  | _ => .stuck
def iR (g : List PV → R (List PV)) (f : Rho → R (List PV)) : Rho → R (List PV) := fun ρ => (f ρ).bind g
/-- a range of any numbers, walked by the iterator for great ones -/
theorem turn_long {P : Program} {w : World} {K : PySem.W.Frag} {tg : Expr} (z : Addr) (lo : Int) (n : Nat) : Turn P w K tg (Itr lo n) [z] z (fun j g => IsLongIter g z (lo + (j : Nat) * 1) ((n : Int) - (j : Nat)) 1) := by
  have here : z ∈ [z] := List.mem_singleton.mpr rfl
  refine ⟨here, fun j g hg b hb => ?_, fun j g g' hg k => k z here _ hg, ?_, ?_, fun _ _ _ _ _ hg q => wpAny_pyIter_longiter hg q⟩
  · cases List.mem_singleton.mp hb
    exact ⟨_, hg, fun v e => nomatch e⟩
  · rintro X rfl rfl rfl calm j pins u σ H E inv fresh hg lt
    have fr := fresh z here
    refine (Walks.longrange (prog := X.prog) (w := X.w) (inv.ok.hd calm) z lo 1 n).item j u _ _ lt hg fun v g tk hv hg' same => ?_
    obtain ⟨t, rfl⟩ := hv
    have inv' : Inv X pins σ H { u with heap := g, toks := tk } := inv.turned (fun b o hb e => same b o (fun hm => hb (List.mem_singleton.mp hm)) e) fr.1 fr.2.1 fr.2.2.2.1 fr.2.2.2.2.1 fr.2.2.2.2.2
    exact ⟨_, rfl, go_of (s := { u with heap := g, toks := tk }) (n := "longrange_iterator") hg' rfl rfl (by decide) ⟨.int (lo + j), H, inv', ⟨t, by rw [Int.mul_one]⟩, ⟨rfl, rfl⟩, hg', fun b hb => (fresh b hb).1⟩⟩
  · rintro X rfl rfl rfl calm j pins u σ H E inv fresh hg le
    have fr := fresh z here
    have le : n ≤ j := le
    exact wpAny_pyNext_long_end (inv.ok.hd calm) hg (by omega) fun g eb => ⟨rfl, inv.turned (t' := u.toks) (fun b o hb e => eb b o hb e) fr.1 fr.2.1 fr.2.2.2.1 fr.2.2.2.2.1 fr.2.2.2.2.2⟩
theorem range_any {pins : List (Addr × Obj)} {σ : St} {H : Hp} {u : Shared} {R : It → Hp → Prop} {E : Value → Shared → Prop} {i j : Int} {t1 t2 t3 : Tok} {tk : Nat} (inv : Inv X pins σ H u) (q : R (Itr i (j - i).toNat) H) :
    wpAny (model X.prog X.w) X.A (pyIter (.ref u.heap.objs.size)) (PIE X pins σ tg R) E { u with heap := u.heap.push { cls := .type "range", data := .fields #[.int i t1, .int j t2, .int 1 t3] }, toks := tk } := by
  have inv' : Inv X pins σ H { u with heap := u.heap.push { cls := .type "range", data := .fields #[.int i t1, .int j t2, .int 1 t3] }, toks := tk } := inv.kept fun b o e => Heap.get?_push_of_some _ e
  have many : (((j - i).toNat : Nat) : Int) - ((0 : Nat) : Int) = Builtin.Range.rangeSize i j 1 := by rw [rangeSize_one]; split <;> omega
  have first : i + ((0 : Nat) : Int) * 1 = i := by simp
  cases sm : Builtin.Range.small i j 1 with
  | true =>
    refine wpAny_pyIter_range (IsRange.new ..) sm (pi_one inv' _ (turn_range _ i (j - i).toNat) ?_ q)
    show IsRangeIter _ _ (i + ((0 : Nat) : Int) * 1) ((((j - i).toNat : Nat) : Int) - ((0 : Nat) : Int)) 1
    rw [first, many]; exact Heap.get?_push_size _ rfl
  | false =>
    refine wpAny_pyIter_longrange (IsRange.new ..) sm (pi_one inv' _ (turn_long _ i (j - i).toNat) ?_ q)
    show IsLongIter _ _ (i + ((0 : Nat) : Int) * 1) ((((j - i).toNat : Nat) : Int) - ((0 : Nat) : Int)) 1
    rw [first, many]; exact Heap.get?_push_size _ rfl
def iRngA (ta : TA) : TI := fun σ H R => ta σ H fun vs H' => ∃ i j : Int, vs = [.int i, .int j] ∧ R (Itr i (j - i).toNat) H'
theorem pi_rangeA {a b : Expr} {ta : TA} {p pos : Pos} (hg : Gl X "range") (hm : X.mg "range" = none) (ha : PA X [a, b] ta) (h1 : starEach [a, b] X.env = [(false, eval a X.env), (false, eval b X.env)] := by rfl) (h2 : starEach [b] X.env = [(false, eval b X.env)] := by rfl) :
    PI X tg (.Call (.Name "range" p) [a, b] [] pos) (iRngA ta) := by
  refine ⟨fun pins u σ H R inv hw => Call_ (ld_blt inv hg hm boot_range (PyProof.Rows.callWith_type1 (thn (ha.run pos pins u σ H _ inv hw) ?_) (by rw [h1, h2]) (by rw [h2]; rfl)))⟩
  rintro us u1 ⟨vs, H1, inv1, rel, i, j, rfl, q⟩
  cases rel with
  | cons ri rel => cases rel with
    | cons rj rel =>
      cases rel
      obtain ⟨t1, rfl⟩ := ri
      obtain ⟨t2, rfl⟩ := rj
      exact call_range_2 (range_any inv1 q)
theorem i_rng2 (mg : X.mg "range" = none) (hg : Gl X "range") (ha : AJ X W .t [e, e'] fA) (hs : starEach [e, e'] X.env = [(false, eval e X.env), (false, eval e' X.env)] := by rfl) (hs2 : starEach [e'] X.env = [(false, eval e' X.env)] := by rfl) : IJ X W tg (.Call (.Name "range" p) [e, e'] [] pos) (iR rng2 fA) := by
  refine pi_imp (pi_rangeA hg mg ha hs hs2) fun σ H Q ⟨H0, O0, ρ, S, G⟩ => ⟨H0, O0, ρ, S, ?_⟩
  revert G
  unfold iR
  cases fA ρ with
  | stuck => exact False.elim
  | exc c => exact fun G => G
  | ok ps =>
    intro G vs H1 s1 r1
    rw [R.bind_ok] at G
    unfold rng2 at G
    split at G
    · obtain ⟨v, w, rfl, r2, r3⟩ := pr2 r1
      rw [rt_int r2, rt_int r3]
      exact ⟨_, _, rfl, G _ _ s1 (rng_it _ _ _ _)⟩
    · exact G.elim
end
def GotG (K : PySem.W.Frag) (H0 : Hp) (O0 : Addr → Prop) (H : Hp) (ts : List Nat) (σ : St) (ρ : Rho) (Q : St → Hp → Prop) : Option Rho → Prop
  | some ρ' => ∀ σ', StR K H0 O0 H σ' ρ' → (∀ a, OO O0 σ' ρ' a → OO O0 σ ρ a) → σ'.length = σ.length → (∀ (i : Nat), i ∉ ts → σ'[i]? = σ[i]? ∧ ρ'[i]? = ρ[i]?) → Q σ' H
  | none => False
def tG (K : PySem.W.Frag) (ts : List Nat) (h : PV → Rho → Option Rho) : TG := fun v σ H Q => ∃ H0 O0 ρ p, StR K H0 O0 H σ ρ ∧ Rep K H (OO O0 σ ρ) v p ∧ GotG K H0 O0 H ts σ ρ Q (h p ρ)
abbrev GJ (X : Cx) (tg : Expr) (ts : List Nat) (h : PV → Rho → Option Rho) : Prop := PG X tg (tG X.K ts h)
theorem pg_imp {X : Cx} {tg : Expr} {t t' : TG} (h : PG X tg t) (q : ∀ v σ H Q, t' v σ H Q → t v σ H Q) : PG X tg t' := ⟨fun pins s σ H v u Q I r hw => h.run pins s σ H v u Q I r (q v σ H Q hw)⟩
def gN (i : Nat) : PV → Rho → Option Rho := fun p ρ => some (ρ.set i (.val p))
theorem g_name {X : Cx} {tg : Expr} {i : Nat} (h : PG X tg (gName i)) : GJ X tg [i] (gN i) := by
  refine pg_imp h fun v σ H Q ⟨H0, O0, ρ, p, S, r, G⟩ => ?_
  exact G _ (S.set (s := .val p) (fun _ z => nomatch z) (fun q z => by cases z; exact ⟨v, rfl, r⟩)) (fun a z => OO.set_val (s := .val p) (fun _ z => nomatch z) z) (List.length_set ..) fun j hj => have n : i ≠ j := fun e => hj (by rw [e]; exact List.mem_cons_self); ⟨List.getElem?_set_ne n, List.getElem?_set_ne n⟩
def gsCons (g : PV → Rho → Option Rho) (h : List PV → Rho → Option Rho) : List PV → Rho → Option Rho
  | p :: ps, ρ => (g p ρ).bind (h ps)
  | [], _ => none
section
variable {X : Cx} {e : Expr} {es : List Expr} {g : PV → Rho → Option Rho} {h : List PV → Rho → Option Rho} {pos : Pos} {ts us : List Nat}
def gT (h : List PV → Rho → Option Rho) : PV → Rho → Option Rho
  | .tup ps, ρ => h ps ρ
  | .lst ps, ρ => h ps ρ
  | _, _ => none
end
end PL
set_option Elab.async false
set_option linter.all false
set_option maxRecDepth 100000
set_option autoImplicit false
namespace PL
open PySem PySem.Spec L2
open PyProof.Rows hiding St
def wipeR (ρ : Rho) : List Nat → Rho
  | [] => ρ
  | v :: vs => (wipeR ρ vs).set v .un
def notOwn (ρ : Rho) (v : Nat) : Bool := match ρ[v]? with
  | some (.own _) => false
  | _ => true
theorem wipe_get (σ : St) : ∀ (vs : List Nat) (i : Nat), (wipe σ vs)[i]? = if i ∈ vs then (if i < σ.length then some none else none) else σ[i]?
  | [], i => by simp [wipe]
  | v :: vs, i => by
    unfold wipe
    by_cases e : v = i
    · subst e
      rw [if_pos List.mem_cons_self]
      by_cases h : v < σ.length
      · rw [if_pos h, List.getElem?_set_self (by rw [wipe_length]; exact h)]
      · rw [if_neg h, List.getElem?_eq_none (by rw [List.length_set, wipe_length]; omega)]
    · rw [List.getElem?_set_ne e, wipe_get σ vs i]
      have : i ∈ v :: vs ↔ i ∈ vs := by
        rw [List.mem_cons]
        exact ⟨fun z => z.elim (fun z => absurd z.symm e) id, .inr⟩
      simp only [this]
theorem wipe_back {σ σ2 : St} {vs : List Nat} (hl : σ2.length = (wipe σ vs).length) (h : ∀ (i : Nat), i ∉ vs → σ2[i]? = (wipe σ vs)[i]?) : wipe σ2 vs = wipe σ vs := by
  refine List.ext_getElem? fun i => ?_
  rw [wipe_get σ2 vs i]
  by_cases hi : i ∈ vs
  · rw [if_pos hi, hl, wipe_length, wipe_get σ vs i, if_pos hi]
  · rw [if_neg hi, h i hi]
theorem wipe_st {K : PySem.W.Frag} {H0 H : Hp} {O0 : Addr → Prop} {σ : St} {ρ : Rho} (S : StR K H0 O0 H σ ρ) : ∀ vs : List Nat, StR K H0 O0 H (wipe σ vs) (wipeR ρ vs) ∧ ∀ a, OO O0 (wipe σ vs) (wipeR ρ vs) a → OO O0 σ ρ a
  | [] => ⟨S, fun _ z => z⟩
  | v :: vs => by
    obtain ⟨S1, l1⟩ := wipe_st S vs
    exact ⟨S1.set (s := .un) (fun _ z => nomatch z) (fun _ z => nomatch z), fun a z => l1 a (OO.set_val (s := .un) (fun _ z => nomatch z) z)⟩
theorem wipeR_get (ρ : Rho) : ∀ (vs : List Nat) (i : Nat), i ∉ vs → (wipeR ρ vs)[i]? = ρ[i]?
  | [], i, _ => rfl
  | v :: vs, i, h => by
    rw [List.mem_cons, not_or] at h
    unfold wipeR
    rw [List.getElem?_set_ne (Ne.symm h.1), wipeR_get ρ vs i h.2]
theorem wipe_oo {O0 : Addr → Prop} {σ : St} {ρ : Rho} {vs : List Nat} (hn : vs.all (notOwn ρ) = true) {a : Addr} (h : OO O0 σ ρ a) : OO O0 (wipe σ vs) (wipeR ρ vs) a := by
  rcases h with h | ⟨i, ps, h1, h2⟩
  · exact .inl h
  · have hi : i ∉ vs := fun hi => by
      have := List.all_eq_true.mp hn i hi
      unfold notOwn at this
      rw [h1] at this
      cases this
    exact .inr ⟨i, ps, by rw [wipeR_get ρ vs i hi]; exact h1, by rw [wipe_get, if_neg hi]; exact h2⟩
/-- what the turns make of the items -/
def lcGo (tgt : PV → Rho → Option Rho) (test : Rho → R Bool) (elt : Rho → R PV) (ρ : Rho) : List PV → R (List PV)
  | [] => .ok []
  | p :: ps => match tgt p ρ with
    | none => .stuck
    | some ρ1 => match test ρ1 with
      | .ok true => (match elt ρ1 with
        | .ok q => (match lcGo tgt test elt ρ ps with
          | .ok qs => .ok (q :: qs)
          | _ => .stuck)
        | _ => .stuck)
      | .ok false => lcGo tgt test elt ρ ps
      | _ => .stuck
def eLc (vs : List Nat) (it : Rho → R (List PV)) (tgt : PV → Rho → Option Rho) (test : Rho → R Bool) (elt : Rho → R PV) : Rho → R PV := fun ρ =>
  if vs.all (notOwn ρ) = true then (it ρ).bind fun items => if items.length ≤ sizeLine then (match lcGo tgt test elt (wipeR ρ vs) items with
    | .ok qs => .ok (.lst qs)
    | _ => .stuck) else .stuck
  else .stuck
abbrev CJ (X : Cx) (W : WX) (ifs : List Expr) (f : Rho → R Bool) : Prop := PTs X ifs (tT X.K X.mg W f)
def cYes : Rho → R Bool := fun _ => .ok true
abbrev WF : WX := fun _ _ _ _ => False
section
variable {X : Cx} {W : WX} {e tg it : Expr} {pos : Pos} {f g h : Rho → R PV}
theorem c_nil : CJ X W [] cYes := by
  refine ⟨fun pins s σ H Q I ⟨H0, O0, ρ, S, G⟩ => pts_nil.run pins s σ H Q I (G H (Same.refl H))⟩
theorem bump {K : PySem.W.Frag} {H0 H : Hp} {O0 : Addr → Prop} {σ : St} {ρ : Rho} {D : Addr} {o : HO} (S : StR K H0 O0 H σ ρ) (hD : O0 D) (h0 : H0 D = none) {us : List V} (hl : H D = some (.lst us)) (hno : ∀ xs, o ≠ .tup xs := by intro _ z; cases z) : StR K H0 O0 (upd H D o) σ ρ := by
  have k : ∀ a u, H a = some u → ¬ OO O0 σ ρ a → upd H D o a = some u ∧ ¬ OO O0 σ ρ a := fun a u h n => ⟨by rw [upd_ne (fun z => n (by rw [z]; exact .inl hD))]; exact h, n⟩
  refine ⟨S.len, fun b x h => by rw [upd_ne (fun z => by rw [z, h0] at h; cases h)]; exact S.same b x h, fun a h => ?_, fun i ps h => ?_, S.dis, fun i p h => ?_, S.exs, dds_later S.dds (fun a l e => by rw [upd_ne (fun z => by rw [z, hl] at e; cases e)]; exact e) fun b xs _ e => by
    by_cases q : b = D
    · rw [q, upd_same] at e; exact absurd (Option.some.inj e) (hno xs)
    · rw [upd_ne q] at e; exact e⟩
  · by_cases e : a = D
    · rw [e, upd_same]; exact fun z => nomatch z
    · rw [upd_ne e]; exact S.all0 a h
  · obtain ⟨a, vs, e1, e2, e3, e4, e5⟩ := S.own i ps h
    exact ⟨a, vs, e1, by rw [upd_ne (fun z => e4 (by rw [z]; exact hD))]; exact e2, e3, e4, e5.mono k⟩
  · obtain ⟨v, e1, e2⟩ := S.val i p h
    exact ⟨v, e1, e2.mono k⟩
/-- another address is forbidden: one that is new -/
theorem forbid {K : PySem.W.Frag} {H0 H : Hp} {O0 : Addr → Prop} {σ : St} {ρ : Rho} {D : Addr} {o : HO} (S : StR K H0 O0 H σ ρ) (hD : H D = none) (hno : ∀ xs, o ≠ .tup xs := by intro _ z; cases z) : StR K H0 (fun b => O0 b ∨ b = D) (upd H D o) σ ρ := by
  have oo : ∀ a, OO (fun b => O0 b ∨ b = D) σ ρ a → OO O0 σ ρ a ∨ a = D := fun a z => by
    rcases z with (z | z) | z
    · exact .inl (.inl z)
    · exact .inr z
    · exact .inl (.inr z)
  have k : ∀ a u, H a = some u → ¬ OO O0 σ ρ a → upd H D o a = some u ∧ ¬ OO (fun b => O0 b ∨ b = D) σ ρ a := fun a u h n => ⟨same_new hD a u h, fun z => (oo a z).elim n (ne_of_none h hD)⟩
  refine ⟨S.len, fun b x h => same_new hD b x (S.same b x h), fun a h => ?_, fun i ps h => ?_, S.dis, fun i p h => ?_, S.exs, fun i a l e => by
    obtain ⟨e1, e2, e3, e4, e5, e6⟩ := S.dds i a l e
    refine ⟨e1, same_new hD _ _ e2, .inl e3, e4, e5, fun b xs o z => ?_⟩
    by_cases q : b = D
    · rw [q, upd_same] at z; exact absurd (Option.some.inj z) (hno xs)
    · rw [upd_ne q] at z
      exact o.elim (fun o => e6 b xs o z) q⟩
  · rcases h with h | h
    · cases q : H a with
      | none => exact absurd q (S.all0 a h)
      | some u => rw [same_new hD a u q]; exact fun z => nomatch z
    · rw [h, upd_same]; exact fun z => nomatch z
  · obtain ⟨a, vs, e1, e2, e3, e4, e5⟩ := S.own i ps h
    exact ⟨a, vs, e1, same_new hD _ _ e2, e3, fun z => z.elim e4 (ne_of_none e2 hD), e5.mono k⟩
  · obtain ⟨v, e1, e2⟩ := S.val i p h
    exact ⟨v, e1, e2.mono k⟩
theorem lc_run {wi : Rho → R (List PV)} {tgt : PV → Rho → Option Rho} {test : Rho → R Bool} {elt : Rho → R PV} {vs ts : List Nat} (hts : ∀ i ∈ ts, i ∈ vs) {K : PySem.W.Frag} {mg : Str → Option Value} :
    ∀ σ H Q, tE K mg W .f (eLc vs wi tgt test elt) σ H Q → tLc (tI K mg W wi) (tG K ts tgt) (tT K mg WF test) (tE K mg WF .s elt) vs σ H Q := by
  intro σ H Q ⟨H0, O0, ρ, S, G⟩
  refine ⟨H0, O0, ρ, S, ?_⟩
  revert G
  unfold eLc
  split
  · rename_i hn
    cases wi ρ with
    | stuck => exact False.elim
    | exc c => exact fun G => G
    | ok items =>
      rw [R.bind_ok]
      split
      · rename_i hz
        intro G J H1 s1 ok D hD
        cases hq : lcGo tgt test elt (wipeR ρ vs) items with
        | stuck => rw [hq] at G; exact G.elim
        | exc c => rw [hq] at G; exact absurd G (fun G => by exact (show False from G))
        | ok qs =>
          rw [hq] at G
          have S1 := S.step s1
          obtain ⟨S2, l2⟩ := wipe_st S1 vs
          have hH0 : H0 D = none := S1.same.free hD
          have S3 : StR K H0 (fun b => O0 b ∨ b = D) (upd H1 D (.lst [])) (wipe σ vs) (wipeR ρ vs) := forbid S2 hD
          have OD : OO (fun b => O0 b ∨ b = D) (wipe σ vs) (wipeR ρ vs) D := .inl (.inr rfl)
          have oo : ∀ a, OO (fun b => O0 b ∨ b = D) (wipe σ vs) (wipeR ρ vs) a → OO O0 σ ρ a ∨ a = D := fun a z => by
            rcases z with (z | z) | z
            · exact .inl (.inl z)
            · exact .inr z
            · exact .inl (l2 a (.inr z))
          refine ⟨fun i m Hc => m = items.length - i ∧ i ≤ items.length ∧ Same H1 Hc ∧ StR K H0 (fun b => O0 b ∨ b = D) Hc (wipe σ vs) (wipeR ρ vs) ∧
              ∃ ws ps rs, Hc D = some (.lst ws) ∧ Reps K Hc (OO (fun b => O0 b ∨ b = D) (wipe σ vs) (wipeR ρ vs)) ws ps ∧ ps.length ≤ i ∧ lcGo tgt test elt (wipeR ρ vs) (items.drop i) = .ok rs ∧ qs = ps ++ rs,
            ⟨items.length, by simp, Nat.zero_le _, same_new hD, S3, [], [], qs, upd_same, .nil, Nat.zero_le _, by rw [List.drop_zero]; exact hq, rfl⟩, ?_⟩
          rintro i m Hc ⟨rfl, hi, sc, Sc, ws, ps, rs, hDc, rc, hpl, hgo, hqs⟩
          have kept : Kept (OO O0 σ ρ) H1 (OO (fun b => O0 b ∨ b = D) (wipe σ vs) (wipeR ρ vs)) Hc := fun a o h n => ⟨sc a o h, fun z => (oo a z).elim n (ne_of_none h hD)⟩
          have alloc : ∀ a, OO (fun b => O0 b ∨ b = D) (wipe σ vs) (wipeR ρ vs) a → Hc a ≠ none := fun a z => Sc.there z
          by_cases hlt : i < items.length
          · refine .inr ⟨ok.go i Hc _ kept hlt, _, fun H' n => ⟨items.length - (i + 1), by omega, rfl, hlt, n⟩, fun x Hy hy => ?_⟩
            have hg : items[i]? = some items[i] := List.getElem?_eq_getElem hlt
            obtain ⟨sy, ry⟩ := ok.yld i Hc _ x Hy _ kept alloc hg hy
            have hdr : items.drop i = items[i] :: items.drop (i + 1) := List.drop_eq_getElem_cons hlt
            rw [hdr] at hgo
            refine ⟨H0, _, wipeR ρ vs, items[i], Sc.step sy, ry, ?_⟩
            unfold lcGo at hgo
            cases ht : tgt items[i] (wipeR ρ vs) with
            | none => rw [ht] at hgo; cases hgo
            | some ρ1 =>
              rw [ht] at hgo
              intro σ2 Sg lg eg kg
              refine ⟨wipe_back eg fun j hj => (kg j fun z => hj (hts j z)).1, H0, _, ρ1, Sg, ?_⟩
              have hgo : (match test ρ1 with
                | .ok true => (match elt ρ1 with
                  | .ok q => (match lcGo tgt test elt (wipeR ρ vs) (items.drop (i + 1)) with
                    | .ok qs => .ok (q :: qs)
                    | _ => .stuck)
                  | _ => .stuck)
                | .ok false => lcGo tgt test elt (wipeR ρ vs) (items.drop (i + 1))
                | _ => .stuck) = (.ok rs : R (List PV)) := hgo
              cases hte : test ρ1 with
              | stuck => rw [hte] at hgo; cases hgo
              | exc c => rw [hte] at hgo; cases hgo
              | ok b =>
                rw [hte] at hgo
                intro H3 s3
                cases b with
                | false =>
                  rw [if_neg Bool.false_ne_true]
                  have s13 := (sc.trans sy).trans s3
                  exact ⟨s13, Sc.step (sy.trans s3), ws, ps, rs, (sy.trans s3) _ _ hDc, rc.same (sy.trans s3), by omega, hgo, hqs⟩
                | true =>
                  rw [if_pos rfl]
                  refine ⟨H0, _, ρ1, Sg.step s3, ?_⟩
                  have hgo : (match elt ρ1 with
                    | .ok q => (match lcGo tgt test elt (wipeR ρ vs) (items.drop (i + 1)) with
                      | .ok qs => .ok (q :: qs)
                      | _ => .stuck)
                    | _ => .stuck) = (.ok rs : R (List PV)) := hgo
                  cases hel : elt ρ1 with
                  | stuck => rw [hel] at hgo; cases hgo
                  | exc c => rw [hel] at hgo; cases hgo
                  | ok q =>
                    rw [hel] at hgo
                    have hgo : (match lcGo tgt test elt (wipeR ρ vs) (items.drop (i + 1)) with
                      | .ok qs => .ok (q :: qs)
                      | _ => .stuck) = (.ok rs : R (List PV)) := hgo
                    cases hre : lcGo tgt test elt (wipeR ρ vs) (items.drop (i + 1)) with
                    | stuck => rw [hre] at hgo; cases hgo
                    | exc c => rw [hre] at hgo; cases hgo
                    | ok rs' =>
                      rw [hre] at hgo
                      cases hgo
                      intro y H4 s4 r4
                      have s34 := (sy.trans s3).trans s4
                      have r4 : Rep K H4 (OO (fun b => O0 b ∨ b = D) σ2 ρ1) y q := r4
                      refine ⟨ws, s34 _ _ hDc, by rw [rc.length]; omega, ?_⟩
                      have nD : ∀ {b : Addr} {o : HO} {O : Addr → Prop}, O D → H4 b = some o → ¬ O b → upd H4 D (.lst (ws ++ [y])) b = some o ∧ ¬ O b := fun {b o O} hO h n => ⟨by rw [upd_ne (fun z => n (by rw [z]; exact hO))]; exact h, n⟩
                      refine ⟨fun b o h => ?_, bump (Sc.step s34) (.inr rfl) hH0 (s34 _ _ hDc), ws ++ [y], ps ++ [q], rs', upd_same, ?_, by rw [List.length_append]; simp; omega, rfl, by rw [hqs, List.append_assoc]; rfl⟩
                      · rw [upd_ne (ne_of_none h hD)]; exact s34 _ _ (sc _ _ h)
                      · refine Reps.append ((rc.same s34).mono fun b o h n => nD OD h n) (.cons ?_ .nil)
                        refine r4.mono fun b o h n => ?_
                        have hb : b ≠ D := fun z => n (by rw [z]; exact .inl (.inr rfl))
                        refine ⟨by rw [upd_ne hb]; exact h, fun z => ?_⟩
                        rcases z with z | ⟨j, us, z1, z2⟩
                        · exact n (.inl z)
                        · have hj : j ∉ vs := fun hj => by
                            have z3 : (wipeR ρ vs)[j]? = some (.own us) := z1
                            have z4 : (wipe σ vs)[j]? = some (some (.ref b)) := z2
                            rw [wipe_get, if_pos hj] at z4
                            split at z4 <;> cases z4
                          have kj := kg j fun z => hj (hts j z)
                          exact n (.inr ⟨j, us, by rw [kj.2]; exact z1, by rw [kj.1]; exact z2⟩)
          · have e : i = items.length := by omega
            subst e
            rw [List.drop_length] at hgo
            cases hgo
            rw [List.append_nil] at hqs
            subst hqs
            refine .inl ⟨ok.stop _ Hc _ kept (Nat.le_refl _), G _ _ (s1.trans sc) (.inr ⟨D, ws, _, rfl, rfl, s1.free hD, hDc, rc.less fun a z => ?_⟩)⟩
            rcases z with z | z
            · rcases wipe_oo hn z with z | z
              · exact .inl (.inl z)
              · exact .inr z
            · rw [z]; exact OD
      · exact False.elim
  · exact False.elim
variable {ifs : List Expr} {scope : Scope} {own : List (Str × Nat)} {wi : Rho → R (List PV)} {tgt : PV → Rho → Option Rho} {test : Rho → R Bool} {elt : Rho → R PV} {ts : List Nat}
theorem e_lc (hc : X.calm = true) (hN : X.N.Nodup) (hi : IJ X W tg it wi) (ok : BlkOk X.N X.env.scope scope own) (hts : ∀ i ∈ ts, i ∈ own.map (·.2))
    (hg : ∀ (s : Shared) (H : Hp) (C : Addr) (cl : List (Str × Addr)) (fp : List Addr), GJ (X.blk s H scope (compEnvC scope cl C X.env) fp) tg ts tgt)
    (ht : ∀ (s : Shared) (H : Hp) (C : Addr) (cl : List (Str × Addr)) (fp : List Addr), CJ (X.blk s H scope (compEnvC scope cl C X.env) fp) WF ifs test)
    (he : ∀ (s : Shared) (H : Hp) (C : Addr) (cl : List (Str × Addr)) (fp : List Addr), EJ (X.blk s H scope (compEnvC scope cl C X.env) fp) WF .s e elt)
    (hs : ∀ x, foldedSetIterable it X.env x = pure x := by intro _; rfl) : EJ X W .f (.ListComp e [⟨tg, it, ifs, 0⟩] scope pos) (eLc (own.map (·.2)) wi tgt test elt) :=
  pe_imp (pe_lc hc hN hi ok hg ht he hs) (lc_run hts)
end
inductive Out where
  | next (ρ : Rho) | ret (p : PV) | brk (ρ : Rho) | cont (ρ : Rho) | exc (c : Str) (ρ : Rho) | stuck
def GotS (K : PySem.W.Frag) (mg : Str → Option Value) (W : WX) (nw : Bool) (H0 : Hp) (O0 : Addr → Prop) (σ : St) (ρ : Rho) (H : Hp) (D : Ends) : Out → Prop
  | .next ρ' => ∀ σ' H', StR K H0 O0 H' σ' ρ' → Kept (OO O0 σ ρ) H (OO O0 σ' ρ') H' → D.nx σ' H'
  | .brk ρ' => ∀ σ' H', StR K H0 O0 H' σ' ρ' → Kept (OO O0 σ ρ) H (OO O0 σ' ρ') H' → D.bk σ' H'
  | .cont ρ' => ∀ σ' H', StR K H0 O0 H' σ' ρ' → Kept (OO O0 σ ρ) H (OO O0 σ' ρ') H' → D.ct σ' H'
  | .ret p => ∀ v H', Same H0 H' → RepR K O0 nw H0 H' v p → D.rt v H'
  | .exc c ρ' => ∀ C σ' H', mg c = some (.ref C) → StR K H0 O0 H' σ' ρ' → Kept (OO O0 σ ρ) H (OO O0 σ' ρ') H' → W (.ref C) none σ' H'
  | .stuck => False
def tS (K : PySem.W.Frag) (mg : Str → Option Value) (W : WX) (nw : Bool) (g : Rho → Out) : TS := fun D σ H =>
  ∃ H0 O0 ρ, StR K H0 O0 H σ ρ ∧ GotS K mg W nw H0 O0 σ ρ H D (g ρ)
abbrev SJ (X : Cx) (W : WX) (nw : Bool) (st : Stmt) (g : Rho → Out) : Prop := PS X st (tS X.K X.mg W nw g)
abbrev BJ (X : Cx) (W : WX) (nw : Bool) (st : List Stmt) (g : Rho → Out) : Prop := PSs X st (tS X.K X.mg W nw g)
def Out.then (o : Out) (k : Rho → Out) : Out := match o with
  | .next ρ => k ρ
  | o => o
section
variable {K : PySem.W.Frag} {mg : Str → Option Value} {W : WX} {nw : Bool} {H0 H H1 : Hp} {O0 : Addr → Prop} {σ σ1 : St} {ρ ρ1 : Rho} {D : Ends}
theorem GotS.later {o : Out} (k : Kept (OO O0 σ ρ) H (OO O0 σ1 ρ1) H1) (G : GotS K mg W nw H0 O0 σ ρ H D o) : GotS K mg W nw H0 O0 σ1 ρ1 H1 D o := by
  cases o with
  | next ρ' => exact fun σ' H' S k' => G σ' H' S (k.trans k')
  | brk ρ' => exact fun σ' H' S k' => G σ' H' S (k.trans k')
  | cont ρ' => exact fun σ' H' S k' => G σ' H' S (k.trans k')
  | ret p => exact G
  | exc c ρ' => exact fun C σ' H' e S k' => G C σ' H' e S (k.trans k')
  | stuck => exact G
/-- an expression's exception, from the statement's -/
theorem exc_of {c : Str} (S : StR K H0 O0 H σ ρ) (G : GotS K mg W nw H0 O0 σ ρ H D (.exc c ρ)) : ∀ C H', Same H H' → mg c = some (.ref C) → W (.ref C) none σ H' :=
  fun C H' s e => G C σ H' e (S.step s) (Kept.same s)
theorem kept_set {i : Nat} {v : Option V} {s : Slot} (hs : ∀ ps, s ≠ .own ps) (sm : Same H H1) : Kept (OO O0 σ ρ) H (OO O0 (σ.set i v) (ρ.set i s)) H1 := fun a o h n => ⟨sm a o h, fun z => n (OO.set_val hs z)⟩
theorem kept_own {i : Nat} {a : Addr} {ps : List PV} (hn : H a = none) (sm : Same H H1) : Kept (OO O0 σ ρ) H (OO O0 (σ.set i (some (.ref a))) (ρ.set i (.own ps))) H1 := fun b o h n => ⟨sm b o h, fun z => by
  rcases z with z | ⟨j, qs, h1, h2⟩
  · exact n (.inl z)
  · by_cases e : i = j
    · subst e
      by_cases hl : i < σ.length
      · rw [List.getElem?_set_self hl] at h2; cases h2
        exact ne_of_none h hn rfl
      · rw [List.getElem?_eq_none (by rw [List.length_set]; omega)] at h2; cases h2
    · rw [List.getElem?_set_ne e] at h1 h2
      exact n (.inr ⟨j, qs, h1, h2⟩)⟩
end
section
variable {X : Cx} {W : WX} {nw : Bool} {st : Stmt} {rest : List Stmt} {e : Expr} {pos : Pos} {f : Rho → R PV} {g h : Rho → Out}
theorem ps_imp {t t' : TS} (h : PS X st t) (q : ∀ D σ H, t' D σ H → t D σ H) : PS X st t' := ⟨fun pins s σ H D I hw => h.run pins s σ H D I (q D σ H hw)⟩
theorem pss_imp {sts : List Stmt} {t t' : TS} (h : PSs X sts t) (q : ∀ D σ H, t' D σ H → t D σ H) : PSs X sts t' := ⟨fun pins s σ H D I hw => h.run pins s σ H D I (q D σ H hw)⟩
def bNil : Rho → Out := .next
def bSeq (g h : Rho → Out) : Rho → Out := fun ρ => (g ρ).then h
theorem b_nil : BJ X W nw [] bNil := by
  refine pss_imp pss_nil fun D σ H ⟨H0, O0, ρ, S, G⟩ => ?_
  exact G σ H S (Kept.refl _ _)
theorem b_cons (h1 : SJ X W nw st g) (h2 : BJ X W nw rest h) : BJ X W nw (st :: rest) (bSeq g h) := by
  refine pss_imp (pss_cons h1 h2) fun D σ H ⟨H0, O0, ρ, S, G⟩ => ⟨H0, O0, ρ, S, ?_⟩
  have G' : GotS X.K X.mg W nw H0 O0 σ ρ H D ((g ρ).then h) := G
  revert G'
  cases g ρ with
  | next ρ' => exact fun G' σ' H' S' k => ⟨H0, O0, ρ', S', GotS.later k G'⟩
  | ret p => exact fun G => G
  | brk ρ' => exact fun G => G
  | cont ρ' => exact fun G => G
  | exc c ρ' => exact fun G => G
  | stuck => exact fun G => G
/-- by an expression, then on -/
def sE (f : Rho → R PV) (k : PV → Rho → Out) : Rho → Out := fun ρ => match f ρ with
  | .ok p => k p ρ
  | .exc c => .exc c ρ
  | .stuck => .stuck
theorem got_e {K : PySem.W.Frag} {mg : Str → Option Value} {H0 H : Hp} {O0 : Addr → Prop} {σ : St} {ρ : Rho} {D : Ends} {m : Md} {k : PV → Rho → Out} {Q : VK} (S : StR K H0 O0 H σ ρ) (G : GotS K mg W nw H0 O0 σ ρ H D (sE f k ρ))
    (hk : ∀ p v H', Same H H' → RepM K O0 σ ρ m H H' v p → GotS K mg W nw H0 O0 σ ρ H D (k p ρ) → Q v H') : Got K mg W O0 σ ρ m H Q (f ρ) := by
  revert G
  unfold sE
  cases f ρ with
  | ok p => exact fun G v H' s r => hk p v H' s r G
  | exc c => exact fun G => exc_of S G
  | stuck => exact fun G => G
def sDrop (f : Rho → R PV) : Rho → Out := sE f fun _ ρ => .next ρ
theorem s_expr {m : Md} (he : EJ X W m e f) (hs : swapsWith e none pos.line X.env = pure false := by rfl) : SJ X W nw (.Expr e pos) (sDrop f) := by
  refine ps_imp (ps_expr he hs) fun D σ H ⟨H0, O0, ρ, S, G⟩ => ⟨H0, O0, ρ, S, got_e S G fun p v H' s r G => ?_⟩
  exact G σ H' (S.step s) (Kept.same s)
def sRet (f : Rho → R PV) : Rho → Out := sE f fun p _ => .ret p
theorem s_ret (he : EJ X W .s e f) : SJ X W false (.Return (some e) pos) (sRet f) := by
  refine ps_imp (ps_ret he) fun D σ H ⟨H0, O0, ρ, S, G⟩ => ⟨H0, O0, ρ, S, got_e S G fun p v H' s r G => ?_⟩
  exact G v H' (S.same.trans s) (Rep.less (fun _ z => .inl z) r)
theorem s_retF (he : EJ X W .f e f) : SJ X W true (.Return (some e) pos) (sRet f) := by
  refine ps_imp (ps_ret he) fun D σ H ⟨H0, O0, ρ, S, G⟩ => ⟨H0, O0, ρ, S, got_e S G fun p v H' s r G => ?_⟩
  rcases r with z | ⟨a, vs, ps, e1, e2, e3, e4, e5⟩
  · exact G v H' (S.same.trans s) (.inl z)
  · exact G v H' (S.same.trans s) (.inr ⟨a, vs, ps, e1, e2, S.same.free e3, e4, e5.less fun b z => z.elim (fun z => .inl (.inl z)) .inr⟩)
/-- a list of one's own is handed back -/
def sRetO (i : Nat) : Rho → Out := fun ρ => match ρ[i]? with
  | some (.own ps) => .ret (.lst ps)
  | _ => .stuck
def sIf (t : Rho → R Bool) (g h : Rho → Out) : Rho → Out := fun ρ => match t ρ with
  | .ok true => g ρ
  | .ok false => h ρ
  | .exc c => .exc c ρ
  | .stuck => .stuck
theorem s_if {c : Expr} {a b : List Stmt} {t : Rho → R Bool} (hc : TJ X W c t) (ha : BJ X W nw a g) (hb : BJ X W nw b h) : SJ X W nw (.If c a b pos) (sIf t g h) := by
  refine ps_imp (ps_if hc ha hb) fun D σ H ⟨H0, O0, ρ, S, G⟩ => ⟨H0, O0, ρ, S, ?_⟩
  have G' : GotS X.K X.mg W nw H0 O0 σ ρ H D (match t ρ with
    | .ok true => g ρ
    | .ok false => h ρ
    | .exc c => .exc c ρ
    | .stuck => .stuck) := G
  revert G'
  cases t ρ with
  | ok b =>
    cases b with
    | true => exact fun G H' s => by show (if true = true then _ else _); exact iteT ⟨H0, O0, ρ, S.step s, GotS.later (Kept.same s) G⟩
    | false => exact fun G H' s => by show (if false = true then _ else _); exact iteF ⟨H0, O0, ρ, S.step s, GotS.later (Kept.same s) G⟩
  | exc c => exact fun G => exc_of S G
  | stuck => exact fun G => G
def sPass : Rho → Out := .next
def sSet (i : Nat) (f : Rho → R PV) : Rho → Out := sE f fun p ρ => .next (ρ.set i (.val p))
def sSetO (i : Nat) (f : Rho → R PV) : Rho → Out := sE f fun p ρ => match p with
  | .lst ps => .next (ρ.set i (.own ps))
  | _ => .stuck
theorem q_set {K : PySem.W.Frag} {mg : Str → Option Value} {i : Nat} {te : TE} (hte : ∀ σ H Q, tE K mg W .s f σ H Q → te σ H Q) : ∀ D σ H, tS K mg W nw (sSet i f) D σ H → tAsg te (gName i) D σ H := by
  intro D σ H ⟨H0, O0, ρ, S, G⟩
  refine hte _ _ _ ⟨H0, O0, ρ, S, got_e S G fun p v H' s r G => ?_⟩
  exact G _ H' ((S.step s).set (s := .val p) (fun _ z => nomatch z) fun q z => by cases z; exact ⟨v, rfl, r⟩) (kept_set (s := .val p) (fun _ z => nomatch z) s)
theorem q_setO {K : PySem.W.Frag} {mg : Str → Option Value} {i : Nat} {te : TE} (hte : ∀ σ H Q, tE K mg W .f f σ H Q → te σ H Q) : ∀ D σ H, tS K mg W nw (sSetO i f) D σ H → tAsg te (gName i) D σ H := by
  intro D σ H ⟨H0, O0, ρ, S, G⟩
  refine hte _ _ _ ⟨H0, O0, ρ, S, got_e S G fun p v H' s r G => ?_⟩
  rcases r with ⟨rfl, rfl⟩ | ⟨a, vs, ps, rfl, rfl, e3, e4, e5⟩
  · exact G.elim
  · exact G _ H' (S.setOwn s e3 e4 e5) (kept_own e3 s)
theorem s_set {i : Nat} {x : Str} {pos' : Pos} (hN : X.N.Nodup) (hi : X.N[i]? = some x) (hx : Loc X.env.scope x) (he : EJ X W .s e f) (hs : swapsWith e (some (.Name x pos')) pos.line X.env = pure false := by rfl) (hf : X.fn x = true ∨ X.env.scope.names.lookup x = some .local := by first | exact .inl rfl | exact .inr rfl | assumption) :
    SJ X W nw (.Assign [.Name x pos'] e pos) (sSet i f) := ps_imp (ps_set hN hi hx he hs hf) (q_set fun _ _ _ z => z)
theorem s_setO {i : Nat} {x : Str} {pos' : Pos} (hN : X.N.Nodup) (hi : X.N[i]? = some x) (hx : Loc X.env.scope x) (he : EJ X W .f e f) (hs : swapsWith e (some (.Name x pos')) pos.line X.env = pure false := by rfl) (hf : X.fn x = true ∨ X.env.scope.names.lookup x = some .local := by first | exact .inl rfl | exact .inr rfl | assumption) :
    SJ X W nw (.Assign [.Name x pos'] e pos) (sSetO i f) := ps_imp (ps_set hN hi hx he hs hf) (q_setO fun _ _ _ z => z)
/-- y = [.. for ..] -/
theorem lcs {i : Nat} {y : Str} {py : Pos} {tg it : Expr} {ifs : List Expr} {scope : Scope} {own : List (Str × Nat)} {spos : Pos} {wi : Rho → R (List PV)} {tgt : PV → Rho → Option Rho} {test : Rho → R Bool} {elt : Rho → R PV} {ts : List Nat} {t : TS}
    (hq : ∀ D σ H, t D σ H → tAsg (tLc (tI X.K X.mg W wi) (tG X.K ts tgt) (tT X.K X.mg WF test) (tE X.K X.mg WF .s elt) (own.map (·.2))) (gName i) D σ H) (hc : X.calm = true) (hN : X.N.Nodup) (hy : X.N[i]? = some y) (hyl : X.env.scope.names.lookup y = some .local)
    (hsw : swapsWith (.ListComp e [⟨tg, it, ifs, 0⟩] scope pos) (some (.Name y py)) spos.line X.env = pure true) (hi : IJ X W tg it wi) (ok : BlkOk X.N X.env.scope scope own)
    (hg : ∀ (s : Shared) (H : Hp) (C : Addr) (cl : List (Str × Addr)) (fp : List Addr), GJ (X.blk s H scope (compEnvC scope cl C X.env) fp) tg ts tgt)
    (ht : ∀ (s : Shared) (H : Hp) (C : Addr) (cl : List (Str × Addr)) (fp : List Addr), CJ (X.blk s H scope (compEnvC scope cl C X.env) fp) WF ifs test)
    (he : ∀ (s : Shared) (H : Hp) (C : Addr) (cl : List (Str × Addr)) (fp : List Addr), EJ (X.blk s H scope (compEnvC scope cl C X.env) fp) WF .s e elt)
    (hs : ∀ x, foldedSetIterable it X.env x = pure x := by intro _; rfl) : PS X (.Assign [.Name y py] (.ListComp e [⟨tg, it, ifs, 0⟩] scope pos) spos) t := ps_imp (ps_setLc hc hN hy hyl hsw hi ok hg ht he hs) hq
theorem q_lc {i : Nat} {wi : Rho → R (List PV)} {tgt : PV → Rho → Option Rho} {test : Rho → R Bool} {elt : Rho → R PV} {vs ts : List Nat} (hts : ∀ i ∈ ts, i ∈ vs) : ∀ D σ H, tS X.K X.mg W nw (sSet i (eLc vs wi tgt test elt)) D σ H → tAsg (tLc (tI X.K X.mg W wi) (tG X.K ts tgt) (tT X.K X.mg WF test) (tE X.K X.mg WF .s elt) vs) (gName i) D σ H :=
  q_set fun σ H Q ⟨H0, O0, ρ, S, G⟩ => lc_run hts σ H Q ⟨H0, O0, ρ, S, by
    revert G
    cases eLc vs wi tgt test elt ρ with
    | ok p => exact fun G v H' s r => G v H' s (RepM.f_s S r)
    | exc c => exact fun G => G
    | stuck => exact fun G => G⟩
/-- target = e -/
def sTo (h : PV → Rho → Option Rho) (f : Rho → R PV) : Rho → Out := sE f fun p ρ => match h p ρ with
  | some ρ' => .next ρ'
  | none => .stuck
/-- a, b = x, y -/
def sPar (i j : Nat) (fA : Rho → R (List PV)) : Rho → Out := fun ρ => match fA ρ with
  | .ok [p, q] => .next ((ρ.set i (.val p)).set j (.val q))
  | .exc c => .exc c ρ
  | _ => .stuck
/-- x op= e, by values -/
def sAug (i : Nat) (g : PV → PV → R PV) (f : Rho → R PV) : Rho → Out := fun ρ => match ρ[i]? with
  | some (.val x) => sE (fun ρ => (f ρ).bind fun y => g x y) (fun z ρ => .next (ρ.set i (.val z))) ρ
  | _ => .stuck
theorem s_aug {i : Nat} {x : Str} {op : Operator} {r : R2} {g : PV → PV → R PV} {pos' : Pos} (hN : X.N.Nodup) (hi : X.N[i]? = some x) (hx : Loc X.env.scope x) (he : EJ X W .t e f) (hr : OpR X (inplaceOp op) r) (hg : ∀ p q c, g p q ≠ .exc c) (ho : OpS X.K r .t .t .s g) (hf : X.fn x = true ∨ X.env.scope.names.lookup x = some .local := by first | exact .inl rfl | exact .inr rfl | assumption) :
    SJ X W nw (.AugAssign (.Name x pos') op e pos) (sAug i g f) := by
  refine ps_imp (ps_aug hN hi hx he (ti := r) (fun pins s σ H x y v u Q I r1 r2 h => hr pins s σ H x y v u Q I r1 r2 h) hf) fun D σ H ⟨H0, O0, ρ, S, G⟩ => ?_
  unfold sAug at G
  split at G
  · rename_i p hp
    obtain ⟨v, e1, e2⟩ := S.val i p hp
    refine ⟨v, e1, H0, O0, ρ, S, ?_⟩
    have G' : GotS X.K X.mg W nw H0 O0 σ ρ H D (match (f ρ).bind fun y => g p y with
      | .ok z => .next (ρ.set i (.val z))
      | .exc c => .exc c ρ
      | .stuck => .stuck) := G
    revert G'
    cases f ρ with
    | stuck => exact False.elim
    | exc c => exact fun G => exc_of S G
    | ok q =>
      intro G y H1 s1 r1
      refine ho S s1 (RepM.s_t (H := H) (Rep.same s1 e2)) r1 ?_
      revert G
      rw [R.bind_ok]
      cases hz : g p q with
      | stuck => exact False.elim
      | exc c => exact absurd hz (hg p q c)
      | ok z => exact fun G w H2 s2 r2 => G _ H2 ((S.step (s1.trans s2)).set (s := .val z) (fun _ z => nomatch z) fun q z => by cases z; exact ⟨w, rfl, r2⟩) (kept_set (s := .val z) (fun _ z => nomatch z) (s1.trans s2))
  · exact G.elim
theorem s_augAdd {i : Nat} {x : Str} {pos' : Pos} (hN : X.N.Nodup) (hi : X.N[i]? = some x) (hx : Loc X.env.scope x) (he : EJ X W .t e f) (hf : X.fn x = true ∨ X.env.scope.names.lookup x = some .local := by first | exact .inl rfl | exact .inr rfl | assumption) :
    SJ X W nw (.AugAssign (.Name x pos') .Add e pos) (sAug i (intP (fun _ _ => true) fun a b => .int (a + b)) f) := s_aug hN hi hx he iop_add intP_exc (s_int0 fun _ _ _ _ => .int _) hf
/-- a list is let go -/
def sFrz (i : Nat) (g : Rho → Out) : Rho → Out := fun ρ => match ρ[i]? with
  | some (.own ps) => g (ρ.set i (.val (.lst ps)))
  | _ => g ρ
end
end PL
set_option Elab.async false
set_option linter.all false
set_option maxRecDepth 100000
set_option autoImplicit false
namespace PL
open PySem PySem.Spec L2
open PyProof.Rows hiding St
section
variable {X : Cx} {W : WX} {nw : Bool} {st : Stmt} {rest : List Stmt} {e : Expr} {pos : Pos} {f : Rho → R PV} {g h : Rho → Out}
def forL (tgt : PV → Rho → Option Rho) (body : Rho → Out) : List PV → Rho → Out
  | [], ρ => .next ρ
  | p :: ps, ρ => match tgt p ρ with
    | none => .stuck
    | some ρ1 => match body ρ1 with
      | .next ρ' => forL tgt body ps ρ'
      | .cont ρ' => forL tgt body ps ρ'
      | .brk ρ' => .next ρ'
      | o => o
def sFor (it : Rho → R (List PV)) (tgt : PV → Rho → Option Rho) (body : Rho → Out) : Rho → Out := fun ρ => match it ρ with
  | .ok items => forL tgt body items ρ
  | .exc c => .exc c ρ
  | .stuck => .stuck
theorem s_for {tg it : Expr} {body : List Stmt} {wi : Rho → R (List PV)} {tgt : PV → Rho → Option Rho} {ts : List Nat} (hp : PassesOwn (model X.prog X.w) X.A X.env X.xe) (hc : X.calm = true) (hi : IJ X W tg it wi) (hg : GJ X tg ts tgt) (hb : BJ X W nw body g) (hs : ∀ x, foldedSetIterable it X.env x = pure x := by intro _; rfl) : SJ X W nw (.For tg it body [] pos) (sFor wi tgt g) := by
  refine ps_imp (ps_for hp hc hi hg hb hs) fun D σ H ⟨H0, O0, ρ, S, G⟩ => ⟨H0, O0, ρ, S, ?_⟩
  have G' : GotS X.K X.mg W nw H0 O0 σ ρ H D (match wi ρ with
    | .ok items => forL tgt g items ρ
    | .exc c => .exc c ρ
    | .stuck => .stuck) := G
  revert G'
  cases wi ρ with
  | stuck => exact False.elim
  | exc c => exact fun G => exc_of S G
  | ok items =>
    intro G J H1 s1 ok
    refine ⟨fun i m σc Hc => m = items.length - i ∧ i ≤ items.length ∧ ∃ ρc, StR X.K H0 O0 Hc σc ρc ∧ Kept (OO O0 σ ρ) H1 (OO O0 σc ρc) Hc ∧ GotS X.K X.mg W nw H0 O0 σc ρc Hc D (forL tgt g (items.drop i) ρc),
      ⟨items.length, by simp, Nat.zero_le _, ρ, S.step s1, Kept.refl _ _, by rw [List.drop_zero]; exact GotS.later (Kept.same s1) G⟩, ?_⟩
    rintro i m σc Hc ⟨rfl, hi, ρc, Sc, kc, Gc⟩
    by_cases hlt : i < items.length
    · refine .inr ⟨ok.go i Hc _ kc hlt, fun σ' H' => ∃ ρ', StR X.K H0 O0 H' σ' ρ' ∧ Kept (OO O0 σ ρ) H1 (OO O0 σ' ρ') H' ∧ GotS X.K X.mg W nw H0 O0 σ' ρ' H' D (forL tgt g (items.drop (i + 1)) ρ'), fun σ' H' n => ⟨items.length - (i + 1), by omega, rfl, hlt, n⟩, fun x Hy hy => ?_⟩
      have hg : items[i]? = some items[i] := List.getElem?_eq_getElem hlt
      obtain ⟨sy, ry⟩ := ok.yld i Hc _ x Hy _ kc (fun a z => Sc.there z) hg hy
      have hdr : items.drop i = items[i] :: items.drop (i + 1) := List.drop_eq_getElem_cons hlt
      rw [hdr] at Gc
      refine ⟨H0, O0, ρc, items[i], Sc.step sy, ry, ?_⟩
      unfold forL at Gc
      revert Gc
      cases tgt items[i] ρc with
      | none => exact False.elim
      | some ρ1 =>
        intro Gc σ2 S2 l2 _ _
        have k2 : Kept (OO O0 σc ρc) Hc (OO O0 σ2 ρ1) Hy := fun a o h n => ⟨sy a o h, fun z => n (l2 a z)⟩
        refine ⟨H0, O0, ρ1, S2, ?_⟩
        have Gc' := GotS.later k2 Gc
        revert Gc'
        dsimp only
        cases g ρ1 with
        | next ρ' => exact fun Gc' σ' H' S' k' => ⟨ρ', S', (kc.trans k2).trans k', GotS.later k' Gc'⟩
        | cont ρ' => exact fun Gc' σ' H' S' k' => ⟨ρ', S', (kc.trans k2).trans k', GotS.later k' Gc'⟩
        | brk ρ' => exact fun G => G
        | ret p => exact fun G => G
        | exc c ρ' => exact fun G => G
        | stuck => exact fun G => G
    · have e : i = items.length := by omega
      subst e
      rw [List.drop_length] at Gc
      exact .inl ⟨ok.stop _ Hc _ kc (Nat.le_refl _), Gc σc Hc Sc (Kept.refl _ _)⟩
def whN (t : Rho → R Bool) (b : Rho → Out) : Nat → Rho → Out
  | 0, _ => .stuck
  | n + 1, ρ => match t ρ with
    | .stuck => .stuck
    | .exc c => .exc c ρ
    | .ok false => .next ρ
    | .ok true => match b ρ with
      | .next ρ' => whN t b n ρ'
      | .cont ρ' => whN t b n ρ'
      | .brk ρ' => .next ρ'
      | o => o
theorem whN_more {t : Rho → R Bool} {b : Rho → Out} : ∀ (n : Nat) (ρ : Rho), whN t b n ρ ≠ .stuck → whN t b (n + 1) ρ = whN t b n ρ
  | 0, ρ, h => absurd rfl h
  | n + 1, ρ, h => by
    unfold whN at h
    rw [whN]
    conv => rhs; rw [whN]
    revert h
    cases t ρ with
    | stuck => exact fun _ => rfl
    | exc c => exact fun _ => rfl
    | ok k =>
      cases k with
      | false => exact fun _ => rfl
      | true =>
        dsimp only
        cases b ρ with
        | next ρ' => exact fun h => whN_more n ρ' h
        | cont ρ' => exact fun h => whN_more n ρ' h
        | _ => exact fun _ => rfl
theorem whN_le {t : Rho → R Bool} {b : Rho → Out} {n m : Nat} {ρ : Rho} (h : whN t b n ρ ≠ .stuck) (hl : n ≤ m) : whN t b m ρ = whN t b n ρ := by
  induction m with
  | zero => rw [Nat.le_zero.mp hl]
  | succ m ih =>
    by_cases e : n = m + 1
    · rw [e]
    · have q := ih (by omega)
      rw [whN_more m ρ (by rw [q]; exact h), q]
open Classical in
noncomputable def sWh (t : Rho → R Bool) (b : Rho → Out) (ρ : Rho) : Out := if h : ∃ n, whN t b n ρ ≠ .stuck then whN t b h.choose ρ else .stuck
theorem sWh_of {t : Rho → R Bool} {b : Rho → Out} {n : Nat} {ρ : Rho} (h : whN t b n ρ ≠ .stuck) : sWh t b ρ = whN t b n ρ := by
  have hx : ∃ n, whN t b n ρ ≠ .stuck := ⟨n, h⟩
  unfold sWh
  rw [dif_pos hx]
  have hc := hx.choose_spec
  rcases Nat.le_total n hx.choose with l | l
  · exact whN_le h l
  · exact (whN_le hc l).symm
theorem sWh_ex {t : Rho → R Bool} {b : Rho → Out} {ρ : Rho} (h : sWh t b ρ ≠ .stuck) : ∃ n, whN t b n ρ = sWh t b ρ := by
  by_cases hx : ∃ n, whN t b n ρ ≠ .stuck
  · obtain ⟨n, hn⟩ := hx
    exact ⟨n, (sWh_of hn).symm⟩
  · unfold sWh at h
    rw [dif_neg hx] at h
    exact absurd rfl h
/-- one turn -/
theorem sWh_eq (t : Rho → R Bool) (b : Rho → Out) (ρ : Rho) : sWh t b ρ = (match t ρ with
    | .stuck => .stuck
    | .exc c => .exc c ρ
    | .ok false => .next ρ
    | .ok true => match b ρ with
      | .next ρ' => sWh t b ρ'
      | .cont ρ' => sWh t b ρ'
      | .brk ρ' => .next ρ'
      | o => o) := by
  have go : ∀ ρ', (∀ n, whN t b (n + 1) ρ = whN t b n ρ') → sWh t b ρ = sWh t b ρ' := fun ρ' q => by
    by_cases h : sWh t b ρ' = .stuck
    · rw [h]
      by_cases h2 : sWh t b ρ = .stuck
      · exact h2
      · obtain ⟨n, hn⟩ := sWh_ex h2
        have hn' : whN t b n ρ ≠ .stuck := by rw [hn]; exact h2
        have e : whN t b n ρ' ≠ .stuck := by rw [← q n, whN_more n ρ hn']; exact hn'
        rw [sWh_of e] at h
        exact absurd h e
    · obtain ⟨n, hn⟩ := sWh_ex h
      have e : whN t b (n + 1) ρ ≠ .stuck := by rw [q n, hn]; exact h
      rw [sWh_of e, q n, hn]
  have one : ∀ o, o ≠ .stuck → whN t b 1 ρ = o → sWh t b ρ = o := fun o ho e => by rw [← e]; exact sWh_of (by rw [e]; exact ho)
  have non : (∀ n, whN t b n ρ = .stuck) → sWh t b ρ = .stuck := fun q => by
    unfold sWh
    rw [dif_neg (fun ⟨n, hn⟩ => hn (q n))]
  cases ht : t ρ with
  | stuck => exact non fun n => by cases n with | zero => rfl | succ n => rw [whN, ht]
  | exc c => exact one _ (fun z => nomatch z) (by rw [whN, ht])
  | ok k =>
    cases k with
    | false => exact one _ (fun z => nomatch z) (by rw [whN, ht])
    | true =>
      dsimp only
      cases hb : b ρ with
      | next ρ' => exact go ρ' fun n => by rw [whN, ht]; dsimp only; rw [hb]
      | cont ρ' => exact go ρ' fun n => by rw [whN, ht]; dsimp only; rw [hb]
      | brk ρ' => exact one _ (fun z => nomatch z) (by rw [whN, ht]; dsimp only; rw [hb])
      | ret p => exact one _ (fun z => nomatch z) (by rw [whN, ht]; dsimp only; rw [hb])
      | exc c ρ' => exact one _ (fun z => nomatch z) (by rw [whN, ht]; dsimp only; rw [hb])
      | stuck => exact non fun n => by cases n with | zero => rfl | succ n => rw [whN, ht]; dsimp only; rw [hb]
theorem s_while {c : Expr} {body : List Stmt} {t : Rho → R Bool} (hp : PassesOwn (model X.prog X.w) X.A X.env X.xe) (hc : TJ X W c t) (hb : BJ X W nw body g) : SJ X W nw (.While c body [] pos) (sWh t g) := by
  refine ps_imp (ps_while hp hc hb) fun D σ H ⟨H0, O0, ρ, S, G⟩ => ?_
  have ns : sWh t g ρ ≠ .stuck := fun z => by rw [z] at G; exact G
  obtain ⟨n, hn⟩ := sWh_ex ns
  rw [← hn] at G
  refine ⟨fun m σc Hc => ∃ ρc, StR X.K H0 O0 Hc σc ρc ∧ GotS X.K X.mg W nw H0 O0 σc ρc Hc D (whN t g m ρc), ⟨n, ρ, S, G⟩, ?_⟩
  rintro m σc Hc ⟨ρc, Sc, Gc⟩
  cases m with
  | zero => exact Gc.elim
  | succ m =>
    refine ⟨H0, O0, ρc, Sc, ?_⟩
    unfold whN at Gc
    revert Gc
    cases t ρc with
    | stuck => exact False.elim
    | exc c => exact fun G => exc_of Sc G
    | ok k =>
      cases k with
      | false => exact fun G H1 s1 => iteF (G σc H1 (Sc.step s1) (Kept.same s1))
      | true =>
        dsimp only
        intro G H1 s1
        refine iteT ⟨fun σ' H' => ∃ ρ', StR X.K H0 O0 H' σ' ρ' ∧ GotS X.K X.mg W nw H0 O0 σ' ρ' H' D (whN t g m ρ'), fun σ' H' z => ⟨m, Nat.lt_succ_self m, z⟩, H0, O0, ρc, Sc.step s1, ?_⟩
        have G' := GotS.later (Kept.same s1) G
        revert G'
        cases g ρc with
        | next ρ' => exact fun Gc' σ' H' S' k' => ⟨ρ', S', GotS.later k' Gc'⟩
        | cont ρ' => exact fun Gc' σ' H' S' k' => ⟨ρ', S', GotS.later k' Gc'⟩
        | brk ρ' => exact fun G => G
        | ret p => exact fun G => G
        | exc c ρ' => exact fun G => G
        | stuck => exact fun G => G
theorem kept_write {O0 : Addr → Prop} {σ : St} {ρ : Rho} {H : Hp} {i : Nat} {a : Addr} {ps qs : List PV} {ws : List V} (h1 : ρ[i]? = some (.own ps)) (h2 : σ[i]? = some (some (.ref a))) : Kept (OO O0 σ ρ) H (OO O0 σ (ρ.set i (.own qs))) (upd H a (.lst ws)) := fun b o h n =>
  ⟨by rw [upd_ne (fun z => n (by rw [z]; exact .inr ⟨i, ps, h1, h2⟩))]; exact h, fun z => n (by
    rcases z with z | ⟨j, rs, e1, e2⟩
    · exact .inl z
    · by_cases e : i = j
      · subst e; exact .inr ⟨i, ps, h1, e2⟩
      · rw [List.getElem?_set_ne e] at e1; exact .inr ⟨j, rs, e1, e2⟩)⟩
/-- by the list of slot i and a value -/
def sMut (i : Nat) (g : List PV → PV → R (List PV)) (f : Rho → R PV) : Rho → Out := fun ρ => match ρ[i]? with
  | some (.own ps) => sE f (fun p ρ => match g ps p with
    | .ok qs => .next (ρ.set i (.own qs))
    | _ => .stuck) ρ
  | _ => .stuck
variable {o : Expr} {apos : Pos} {i : Nat}
/-- xs[j] = e -/
def setP (ps : List PV) (p : PV) : PV → R (List PV)
  | .int k => match ixN ps.length k with
    | some j => .ok (ps.set j p)
    | none => .stuck
  | _ => .stuck
def sSetI (i : Nat) (f fi : Rho → R PV) : Rho → Out := fun ρ => match ρ[i]? with
  | some (.own ps) => sE f (fun p => sE fi fun q ρ => match setP ps p q with
    | .ok qs => .next (ρ.set i (.own qs))
    | _ => .stuck) ρ
  | _ => .stuck
theorem s_setI {ix : Expr} {fi : Rho → R PV} {p2 : Pos} (ho : PE X o (tVar i)) (he : EJ X W .s e f) (hi : EJ X W .s ix fi)
    (ha : ∀ v, assign (.Subscript o ix p2) X.env v = (do
      let ov ← holding [v] (eval o X.env)
      let iv ← holding [v, ov] (eval ix X.env)
      standAt p2
      holding [v, ov, iv] (setItem ov iv v)
      release [v, ov, iv] []) := by intro _; rfl)
    (hs : swapsWithSole [.Subscript o ix p2] e pos.line X.env = pure false := by rfl) (hw : swappedStores [.Subscript o ix p2] e X.env = pure none := by rfl)
    (h1 : (assignEach [.Subscript o ix p2] X.env).map (·.2) = [assign (.Subscript o ix p2) X.env] := by rfl) : SJ X W nw (.Assign [.Subscript o ix p2] e pos) (sSetI i f fi) := by
  refine ps_imp (ps_asg he (pg_sub ho hi set_list ha) hs hw h1) fun D σ H ⟨H0, O0, ρ, S, G⟩ => ?_
  unfold sSetI at G
  split at G
  · rename_i ps hp
    refine ⟨H0, O0, ρ, S, got_e S G fun p v H1 s1 r1 G => ?_⟩
    have r1 : Rep X.K H1 (OO O0 σ ρ) v p := r1
    have S1 := S.step s1
    obtain ⟨a, vs, e1, e2, e3, e4, e5⟩ := S1.own i ps hp
    refine ⟨.ref a, e1, H0, O0, ρ, S1, got_e S1 (GotS.later (Kept.same s1) G) fun q w H2 s2 r2 G => ?_⟩
    unfold setP at G
    split at G
    · rename_i qs hq
      split at hq
      · split at hq
        · rename_i j hj
          cases hq
          cases (show Rep X.K H2 (OO O0 σ ρ) w (.int _) from r2)
          have r5 := (e5.same s2).set (r1.same s2) j
          exact ⟨a, vs, _, j, rfl, rfl, s2 _ _ e2, by rw [e5.length]; exact hj, G _ _ ((S1.step s2).write hp e1 r5) ((Kept.same s2).trans (kept_write hp e1))⟩
        · cases hq
      · cases hq
    · exact G.elim
  · exact G.elim
/-- what is known of a class of errors of the text's own -/
structure ExcT (K : PySem.W.Frag) (mg : Str → Option Value) (x : Str) (C : Addr) : Prop where
  g : mg x = some (.ref C)
  ex : PySem.W.excIn K C [.type "ValueError", .type "Exception", .type "BaseException", .type "object"] "ValueError.__new__" = true
  kp : PySem.W.keepIn K (.ref C) = true
  sb : PySem.W.subIn K (.ref C) (.type "BaseException") = some true
  ty : PySem.W.typeIn K (.ref C) = some (.type "type")
def sRaise (x : Str) : Rho → Out := .exc x
theorem s_raise {x m : Str} {C : Addr} {j : Nat} {p p2 p3 : Pos} (T : ExcT X.K X.mg x C) (hc : X.calm = true) (tk : L2N.Takes X W) (hg : Gl X x) (hdb : (x == ("__debug__" : Str)) = false := by decide) : SJ X W nw (.Raise (some (.Call (.Name x p) [.Constant (.str m) j p2] [] p3)) none pos) (sRaise x) := by
  refine ps_imp (L2N.ps_raise hc tk (L2N.pmk_own PySem.F.excBase_ValueError T.ex T.g T.kp (raises_own T.sb T.ty) hg hdb)) fun D σ H ⟨H0, O0, ρ, S, G⟩ => ?_
  exact G C σ H T.g S (Kept.refl _ _)
end
def runF (n : Nat) (g : Rho → Out) : List PV → R PV := fun ps => match g (ps.map Slot.val ++ List.replicate (n - ps.length) Slot.un) with
  | .ret p => .ok p
  | .next _ => .ok .non
  | .exc c _ => .exc c
  | _ => .stuck
theorem start_st {K : PySem.W.Frag} {H : Hp} {O : Addr → Prop} {vs : List V} {ps : List PV} {N : List Str} (al : ∀ a, O a → H a ≠ none) (r : Reps K H O vs ps) : StR K H O H (L2.start N vs) (ps.map Slot.val ++ List.replicate (N.length - ps.length) Slot.un) := by
  have hl := r.length
  have noown : ∀ (i : Nat) qs, (ps.map Slot.val ++ List.replicate (N.length - ps.length) Slot.un)[i]? ≠ some (.own qs) := fun i qs e => by
    have := List.mem_of_getElem? e
    rcases List.mem_append.mp this with z | z
    · obtain ⟨p, _, z⟩ := List.mem_map.mp z
      cases z
    · cases (List.mem_replicate.mp z).2
  have oo : ∀ a, OO O (L2.start N vs) (ps.map Slot.val ++ List.replicate (N.length - ps.length) Slot.un) a → O a := fun a z => by
    rcases z with z | ⟨i, qs, h1, _⟩
    · exact z
    · exact absurd h1 (noown i qs)
  refine ⟨by unfold L2.start; simp [hl], Same.refl H, al, fun i qs h => absurd h (noown i qs), fun i j a qs rs h => absurd h (noown i qs), fun i p h => ?_, (fun i a h => by
    have := List.mem_of_getElem? h
    rcases List.mem_append.mp this with z | z
    · obtain ⟨p, _, z⟩ := List.mem_map.mp z
      cases z
    · cases (List.mem_replicate.mp z).2), fun i a l h => by
    have := List.mem_of_getElem? h
    rcases List.mem_append.mp this with z | z
    · obtain ⟨p, _, z⟩ := List.mem_map.mp z
      cases z
    · cases (List.mem_replicate.mp z).2⟩
  by_cases hi : i < ps.length
  · rw [List.getElem?_append_left (by rw [List.length_map]; exact hi), List.getElem?_map] at h
    cases hq : ps[i]? with
    | none => rw [hq] at h; cases h
    | some q =>
      rw [hq] at h
      cases h
      obtain ⟨v, h1, h2⟩ := r.get hq
      refine ⟨v, ?_, h2.less oo⟩
      unfold L2.start
      rw [List.getElem?_append_left (by rw [List.length_map, hl]; exact hi), List.getElem?_map, h1]
      rfl
  · rw [List.getElem?_append_right (by rw [List.length_map]; omega)] at h
    have := List.mem_of_getElem? h
    cases (List.mem_replicate.mp this).2
section
variable {P : Program} {w : World} {K : PySem.W.Frag} {mg : Str → Option Value} {base : Heap}
theorem Fun_okN {x qual : Str} {st : Stmt} {f : Addr} {fd : FuncData} {N ps : List Str} {k : Nat} {sp : Sp} (F : Fun K x qual st f fd) (S : FnScope N ps (defScope st)) (len : ∀ vs H Q E, sp vs H Q E → vs.length = ps.length)
    (hbody : ∀ (cdv : Value) (A : Around) (outer : List PySem.Env) (s : Shared) (H : Hp) (vs : List V) (Q : VK) (E : XK), Room k (A.deeper (envOfC qual (defScope st) s.heap.objs.size f cdv)) → sp vs H Q E →
      ∃ t, PSs (cxOf (L2N.CX P w) P w K mg base N qual (defScope st) f cdv A outer s H E) (defBody st) t ∧ t { nx := fun _ H' => Q .non H', rt := Q } (L2.start N vs) H) : FnOk P w K mg base (L2N.CX P w) (k + 1) f fd ps sp := by
  obtain ⟨oc, od, kV, doc, pm, an, cdv, ct, osl, rfl, lk, hcd⟩ := F.ex
  exact fn_of lk hcd S len fun A outer s H vs Q E hr hsp => hbody cdv A outer s H vs Q E hr hsp
theorem fn_mk {x qual : Str} {st : Stmt} {f : Addr} {fd : FuncData} {N ps : List Str} {k n : Nat} {nw : Bool} {g : Rho → Out} (F : Fun K x qual st f fd) (S : FnScope N ps (defScope st)) (hn : n = ps.length) (hnw : nw = true → ∀ l, ∀ ρ, g l ≠ .next ρ)
    (hbody : ∀ (cdv : Value) (A : Around) (outer : List PySem.Env) (s : Shared) (H : Hp) (E : XK), Room k (A.deeper (envOfC qual (defScope st) s.heap.objs.size f cdv)) →
      BJ (cxOf (L2N.CX P w) P w K mg base N qual (defScope st) f cdv A outer s H E) (fun cls d _ H => E cls d H) nw (defBody st) g) :
    FnOk P w K mg base (L2N.CX P w) (k + 1) f fd ps (spF K mg n nw (runF N.length g)) := by
  refine Fun_okN F S (fun vs H Q E h => ?_) (fun cdv A outer s H vs Q E hr h => ?_)
  · obtain ⟨_, _, _, _, e, _⟩ := h
    rw [e, hn]
  · obtain ⟨qs, O, al, r, e, h⟩ := h
    refine ⟨_, hbody cdv A outer s H E hr, H, O, _, start_st al r, ?_⟩
    have h' : (match runF N.length g qs with
      | .ok p => ∀ v H', Same H H' → RepR K O nw H H' v p → Q v H'
      | .exc c => ∀ C H', Same H H' → mg c = some (.ref C) → E (.ref C) none H'
      | .stuck => False) := h
    unfold runF at h'
    revert h'
    cases hg : g (qs.map Slot.val ++ List.replicate (N.length - qs.length) Slot.un) with
    | ret p => exact fun h v H' s r => h v H' s r
    | next ρ' =>
      intro h σ' H' S' _
      cases nw with
      | false => exact h _ _ S'.same .non
      | true => exact absurd hg (hnw rfl _ _)
    | exc c ρ' => exact fun h C σ' H' e S' _ => h C H' S'.same e
    | brk ρ' => exact False.elim
    | cont ρ' => exact False.elim
    | stuck => exact False.elim
/-- from inside a def: what a body's statements need of its context -/
theorem tk_of {N : List Str} {qual : Str} {scope : Scope} {f : Addr} {cdv : Value} {A : Around} {outer : List PySem.Env} {s : Shared} {H : Hp} {E : XK} : L2N.Takes (cxOf (L2N.CX P w) P w K mg base N qual scope f cdv A outer s H E) (fun cls d _ H => E cls d H) := L2N.takes_of rfl rfl rfl rfl
theorem hp_of {N : List Str} {qual : Str} {scope : Scope} {f : Addr} {cdv : Value} {A : Around} {outer : List PySem.Env} {s : Shared} {H : Hp} {E : XK} : PassesOwn (model P w) (cxOf (L2N.CX P w) P w K mg base N qual scope f cdv A outer s H E).A (cxOf (L2N.CX P w) P w K mg base N qual scope f cdv A outer s H E).env (cxOf (L2N.CX P w) P w K mg base N qual scope f cdv A outer s H E).xe := passes_of rfl
end
structure DefT (K : PySem.W.Frag) (mg : Str → Option Value) (x : Str) (st : Stmt) (ps : List Str) (f : Addr) (fd : FuncData) : Prop where
  F : Fun K x x st f fd
  g : mg x = some (.ref f)
  b : L2.Binds K fd ps []
def DefE (K : PySem.W.Frag) (mg : Str → Option Value) (x : Str) (st : Stmt) (ps : List Str) : Prop := ∃ f fd, DefT K mg x st ps f fd
def Okd (P : Program) (w : World) (K : PySem.W.Frag) (mg : Str → Option Value) (base : Heap) (x : Str) (ps : List Str) (k n : Nat) (nw : Bool) (F : List PV → R PV) : Prop :=
  ∃ f fd, mg x = some (.ref f) ∧ PySem.W.keepIn K (.ref f) = true ∧ L2.Binds K fd ps [] ∧ FnOk P w K mg base (L2N.CX P w) k f fd ps (spF K mg n nw F)
section
variable {P : Program} {w : World} {K : PySem.W.Frag} {mg : Str → Option Value} {base : Heap}
theorem def_ok {x : Str} {st : Stmt} {N ps : List Str} {k n : Nat} {nw : Bool} {g : Rho → Out} (T : DefE K mg x st ps) (S : FnScope N ps (defScope st)) (hn : n = ps.length) (hnw : nw = true → ∀ l, ∀ ρ, g l ≠ .next ρ)
    (hbody : ∀ (f : Addr) (cdv : Value) (A : Around) (outer : List PySem.Env) (s : Shared) (H : Hp) (E : XK), Room k (A.deeper (envOfC x (defScope st) s.heap.objs.size f cdv)) →
      BJ (cxOf (L2N.CX P w) P w K mg base N x (defScope st) f cdv A outer s H E) (fun cls d _ H => E cls d H) nw (defBody st) g) :
    Okd P w K mg base x ps (k + 1) n nw (runF N.length g) := by
  obtain ⟨f, fd, T⟩ := T
  exact ⟨f, fd, T.g, T.F.kp, T.b, fn_mk T.F S hn hnw (hbody f)⟩
variable {X : Cx} {W : WX} {e : Expr} {es : List Expr} {pos p : Pos} {fA : Rho → R (List PV)}
theorem aCons_len {f : Rho → R PV} {g : Rho → R (List PV)} {n : Nat} (h : ∀ ρ ps, g ρ = .ok ps → ps.length = n) : ∀ ρ ps, aCons f g ρ = .ok ps → ps.length = n + 1 := by
  intro ρ ps e
  unfold aCons at e
  revert e
  cases f ρ with
  | ok a =>
    rw [R.bind_ok]
    cases hg : g ρ with
    | ok qs =>
      intro e
      cases e
      rw [List.length_cons, h ρ qs hg]
    | exc c => exact fun e => nomatch e
    | stuck => exact fun e => nomatch e
  | exc c => exact fun e => nomatch e
  | stuck => exact fun e => nomatch e
theorem aNil_len : ∀ ρ ps, aNil ρ = .ok ps → ps.length = 0 := by
  intro ρ ps e
  cases e
  rfl
/-- the parts' lengths, read off the syntax -/
inductive ALen : (Rho → R (List PV)) → Nat → Prop where
  | nil : ALen aNil 0
  | cons {f : Rho → R PV} {g : Rho → R (List PV)} {n : Nat} : ALen g n → ALen (aCons f g) (n + 1)
theorem ALen.ok {g : Rho → R (List PV)} {n : Nat} (h : ALen g n) : ∀ ρ ps, g ρ = .ok ps → ps.length = n := by
  induction h with
  | nil => exact aNil_len
  | cons _ ih => exact aCons_len ih
theorem e_callD {x : Str} {k j n : Nat} {nw : Bool} {F : List PV → R PV} {pn : List Str} (h : Okd X.prog X.w X.K X.mg X.base x pn j n nw F) (hr : Room k X.A) (hjk : j ≤ k) (tk : L2N.Takes X W) (hg : Gl X x) (ha : AJ X W .s (e :: es) fA) (hal : ALen fA n) (hlen : n = es.length + 1 := by rfl) (hdb : (x == ("__debug__" : Str)) = false := by decide)
    (he : starEach (e :: es) X.env = (false, eval e X.env) :: starEach es X.env := by rfl) (hpl : (backTo pos (starEach es X.env)).any (·.1) = false := by rfl) : EJ X W (mdR nw) (.Call (.Name x p) (e :: es) [] pos) (eD F fA) := by
  obtain ⟨f, fd, h1, h2, h3, h4⟩ := h
  have q := e_call (p := p) (pos := pos) (dvs := []) (dps := []) (ds := []) h4 (hr.mono hjk) hg h1 h2 h3 .nil (fun _ _ => .nil) tk ha (by rw [hlen]; rfl) (by rw [← hlen]; exact hal.ok) hdb he hpl
  have e' : eD (fun ps => F (ps ++ [])) fA = eD F fA := by
    funext ρ
    unfold eD
    congr
    funext ps
    rw [List.append_nil]
  rw [e'] at q
  exact q
theorem passLN {X : Cx} : Passes (L2N.CX X.prog X.w) X E0 := fun _ _ _ _ _ _ _ h => by
  obtain ⟨_, _, _, _, _, _, _, _, _, _, _, _, z⟩ := h
  exact z.elim
theorem e_call0 {x : Str} {k j : Nat} {nw : Bool} {F : List PV → R PV} (h : Okd X.prog X.w X.K X.mg X.base x [] j 0 nw F) (hr : Room k X.A) (hjk : j ≤ k) (hne : ∀ c, F [] ≠ .exc c) (hg : Gl X x) (hdb : (x == ("__debug__" : Str)) = false := by decide) : EJ X W (mdR nw) (.Call (.Name x p) [] [] pos) (fun _ => F []) := by
  obtain ⟨f, fd, h1, h2, h3, h4⟩ := h
  refine pe_imp (pe_call0 h4 (hr.mono hjk) hg h1 h2 (ds := []) (dvs := []) h3 .nil passLN hdb) fun σ H Q ⟨H0, O0, ρ, S, G⟩ => ?_
  refine ⟨[], OO O0 σ ρ, fun a z => S.there z, .nil, rfl, ?_⟩
  have G' : Got X.K X.mg W O0 σ ρ (mdR nw) H Q (F []) := G
  revert G'
  cases hF : F [] with
  | stuck => exact fun G => G
  | exc c => exact absurd hF (hne c)
  | ok p =>
    intro G v H' s' r'
    refine G v H' s' ?_
    cases nw with
    | false => exact r'
    | true => exact r'
end
/-- the law's own promise: of the script -/
def spLaw (K : PySem.W.Frag) : Sp := fun vs H Q _ => ∃ (a : Addr) (ns : List Int), vs = [.ref a] ∧ SqL K H a (ns.map V.int) ∧ Only H ∧ ns.length ≤ 63 ∧ (∀ z ∈ ns, Builtin.Int.intBits z ≤ 1048576) ∧ ∀ v H', v = .bl true → Q v H'
theorem bits_log {z : Int} (h : Builtin.Int.intBits z ≤ 1048576) : z.natAbs.log2 < 1048577 := by
  unfold Builtin.Int.intBits at h
  split at h
  · rename_i e
    have e : z.natAbs = 0 := by simpa using e
    rw [e, Nat.log2_zero]; omega
  · omega
/-- bits: each of the script's numbers has at most 2 ^ 20 of them -/
theorem law_impB {P : Program} {w : World} {K : PySem.W.Frag} {mg : Str → Option Value} {base : Heap} {k : Nat} {f : Addr} {fd : FuncData} {ps : List Str} {F : List PV → R PV} (hF : ∀ ns : List Int, ns.length ≤ 63 → (∀ z ∈ ns, z.natAbs.log2 < 1048577) → F [.frz (ns.map PV.int)] = .ok (.bl true))
    (h : FnOk P w K mg base (L2N.CX P w) k f fd ps (spF K mg 1 false F)) : FnOk P w K mg base (L2N.CX P w) k f fd ps (spLaw K) := by
  refine h.imp fun vs H Q E ⟨a, ns, e1, hs, ho, hl, hb, q⟩ => ?_
  subst e1
  refine ⟨[.frz (ns.map PV.int)], fun _ => False, fun _ z => z.elim, .cons (.frz ?_) .nil, rfl, ?_⟩
  · rcases hs with (hs | hs) | hs
    · rcases ho a with z | ⟨o, xs, z⟩
      · rw [z] at hs; cases hs
      · rw [z] at hs; cases hs
    · exact .inl ⟨hs, fun z => z⟩
    · exact .inr fun _ => .inr hs
  · rw [hF ns hl fun z hz => bits_log (hb z hz)]
    intro v H' s r
    cases r
    exact q _ _ rfl
theorem cx_none {P : Program} {w : World} {H : Hp} {s : Shared} {e : Value} {s' : Shared} (h : L2N.CX P w [] H s (fun _ _ _ => False) e s') : False := by
  obtain ⟨_, _, _, _, _, _, _, _, _, _, _, _, z⟩ := h
  exact z
end PL
set_option Elab.async false
set_option linter.all false
set_option maxRecDepth 100000
set_option autoImplicit false
namespace PL
open PySem PySem.Spec L2
open PyProof.Rows hiding St
def flatP : PV → Bool
  | .non => true
  | .bl _ => true
  | .int _ => true
  | .str _ => true
  | _ => false
section
variable {K : PySem.W.Frag} {H H2 : Hp} {O : Addr → Prop}
theorem flat_v {v : V} {p : PV} (r : Rep K H O v p) (f : flatP p = true) : flatV v = true := by
  cases r with
  | non => rfl
  | bl b => rfl
  | int i => rfl
  | str s => rfl
  | lst _ _ _ => cases f
  | tup _ _ => cases f
  | frz _ => cases f
  | dct _ _ | dt _ _ | obj _ _ _ _ _ => cases f
theorem flat_eq {v w : V} {p q : PV} (r : Rep K H O v p) (s : Rep K H O w q) (f : flatP p = true) (g : flatP q = true) : eqV v w = eqV' p q := by
  cases r with
  | non => cases s with
    | non | bl _ | int _ | str _ => simp only [eqV, eqV']
    | lst _ _ _ | tup _ _ | frz _ | dct _ _ | dt _ _ | obj _ _ _ _ _ => cases g
  | bl b => cases s with
    | non | bl _ | int _ | str _ => simp only [eqV, eqV']
    | lst _ _ _ | tup _ _ | frz _ | dct _ _ | dt _ _ | obj _ _ _ _ _ => cases g
  | int i => cases s with
    | non | bl _ | int _ | str _ => simp only [eqV, eqV']
    | lst _ _ _ | tup _ _ | frz _ | dct _ _ | dt _ _ | obj _ _ _ _ _ => cases g
  | str x => cases s with
    | non | bl _ | int _ | str _ => simp only [eqV, eqV']
    | lst _ _ _ | tup _ _ | frz _ | dct _ _ | dt _ _ | obj _ _ _ _ _ => cases g
  | lst _ _ _ | tup _ _ | frz _ | dct _ _ | dt _ _ | obj _ _ _ _ _ => cases f
theorem flat_in {x : V} {p : PV} (r : Rep K H O x p) (f : flatP p = true) : ∀ {vs : List V} {ps : List PV}, Reps K H O vs ps → ps.all flatP = true → vs.all flatV = true ∧ inV x vs = ps.any fun y => eqV' y p
  | _, _, .nil, _ => ⟨rfl, rfl⟩
  | _, _, .cons h t, hz => by
    rw [List.all_cons, Bool.and_eq_true] at hz
    obtain ⟨h1, h2⟩ := flat_in r f t hz.2
    refine ⟨by rw [List.all_cons, flat_v h hz.1, h1] <;> rfl, ?_⟩
    unfold inV at h2 ⊢
    rw [List.any_cons, List.any_cons, flat_eq h r hz.1 f, h2]
end
def asQ : PV → Option (List PV)
  | .lst l | .tup l | .frz l => some l
  | _ => none
def isLs : PV → Bool
  | .lst _ => true
  | _ => false
def notInP (p q : PV) : R PV := match asQ q with
  | some l => if (flatP p && l.all flatP || isLs q && okD 30 p && okD 30 q) = true then .ok (.bl (!l.any fun y => eqV' y p)) else .stuck
  | none => .stuck
theorem notInP_exc (p q : PV) (c : Str) : notInP p q ≠ .exc c := by unfold notInP; split <;> (try split) <;> exact fun z => nomatch z
theorem rt_seq {K : PySem.W.Frag} {H H2 : Hp} {O0 : Addr → Prop} {σ : St} {ρ : Rho} {x : V} {p : PV} {l : List PV} (r : RepM K O0 σ ρ .t H H2 x p) (h : asQ p = some l) : ∃ a vs, x = .ref a ∧ (SqL K H2 a vs ∨ SqT K H2 a vs) ∧ Reps K H2 (OO O0 σ ρ) vs l := by
  unfold asQ at h
  split at h
  · cases h
    obtain ⟨a, vs, rfl, h1, r1⟩ := rt_lst r
    exact ⟨a, vs, rfl, .inl (.inl (.inl h1)), r1⟩
  · cases h
    obtain ⟨a, vs, rfl, h1, r1⟩ := rt_tup r
    exact ⟨a, vs, rfl, .inr (sqT_of h1), r1⟩
  · cases h
    obtain ⟨a, ns, rfl, rfl, h1⟩ := rt_frz r
    exact ⟨a, _, rfl, .inl h1, Reps.ofInts ns⟩
  · cases h
theorem rt_flat {K : PySem.W.Frag} {H H2 : Hp} {O0 : Addr → Prop} {σ : St} {ρ : Rho} {x : V} {p : PV} (r : RepM K O0 σ ρ .t H H2 x p) (h : flatP p = true) : Rep K H2 (OO O0 σ ρ) x p := by
  rcases r with r | ⟨_, _, _, _, e, _⟩
  · exact r
  · subst e; cases h
theorem toDs_any (p : PV) : ∀ l : List PV, (toDs l).any (fun z => PyData.eqv z (toD p)) = l.any fun y => eqV' y p
  | [] => rfl
  | q :: l => by rw [toDs, List.any_cons, List.any_cons, eqv_toD, toDs_any p l]
def rInB (K : PySem.W.Frag) (neg : Bool) : R2 := fun x y H Q => rIn K neg x y H Q ∨ ∃ d ds, Dp K H x d ∧ Dp K H y (.list ds) ∧ SeqAt.shaped d = true ∧ SeqAt.shaped (.list ds) = true ∧ Q (.bl (if neg then !(ds.any fun z => PyData.eqv z d) else ds.any fun z => PyData.eqv z d)) H
theorem op_notInB {X : Cx} (hu : X.A.units + 65 < cLine) : OpR X (compareOp .NotIn) (rInB X.K true) := op_notIn_seq.or (op_notInD hu)
theorem s_in (K : PySem.W.Frag) (neg : Bool) {g : PV → PV → R PV} (hg : ∀ p q l, asQ q = some l → g p q = if (flatP p && l.all flatP || isLs q && okD 30 p && okD 30 q) = true then .ok (.bl (if neg then !(l.any fun y => eqV' y p) else l.any fun y => eqV' y p)) else .stuck) (hn : ∀ p q, asQ q = none → g p q = .stuck) : OpS K (rInB K neg) .t .t .s g := by
  intro H0 O0 σ ρ H H2 x y p q Q S s rx ry G
  cases hq : asQ q with
  | none => rw [hn p q hq] at G; exact G.elim
  | some l =>
    rw [hg p q l hq] at G
    split at G
    · rename_i hz
      rw [Bool.or_eq_true] at hz
      rcases hz with hz | hz
      · rw [Bool.and_eq_true] at hz
        obtain ⟨a, vs, rfl, h1, r1⟩ := rt_seq ry hq
        have rx' := rt_flat rx hz.1
        obtain ⟨h2, h3⟩ := flat_in rx' hz.1 r1 hz.2
        exact .inl ⟨a, vs, rfl, h1, flat_v rx' hz.1, h2, by rw [h3]; exact G _ _ (Same.refl _) (.bl _)⟩
      · rw [Bool.and_eq_true, Bool.and_eq_true] at hz
        cases q with
        | lst l' =>
          cases hq
          have d2 := rt_dp ry hz.2
          have s2 := okD_shaped hz.2
          simp only [toD] at d2 s2
          exact .inr ⟨_, _, rt_dp rx hz.1.2, d2, okD_shaped hz.1.2, s2, by rw [toDs_any]; exact G _ _ (Same.refl _) (.bl _)⟩
        | _ => cases hz.1.1
    · exact G.elim
theorem roomIn {k : Nat} {A : Around} (hr : Room k A) : A.units + 65 < cLine := by have := hr.un; omega
section
variable {X : Cx} {W : WX} {e a b c : Expr} {pos p : Pos} {f g : Rho → R PV} {es : List Expr} {fA : Rho → R (List PV)}
theorem t_notIn (hu : X.A.units + 65 < cLine) (ha : EJ X W .t a f) (hb : EJ X W .t b g) (hm : behindInMarks .NotIn b = false := by rfl) : TJ X W (.Compare a [.NotIn] [b] pos) (tB1 (e2 notInP f g)) := t_cmp (op_notInB hu) notInP_exc (s_in _ true (fun p q l h => by unfold notInP; rw [h]; rfl) fun p q h => by unfold notInP; rw [h]) ha hb hm
/-- {} -/
theorem e_dct : EJ X W .s (.Dict [] [] pos) (eC .dct) := by
  refine pe_imp pe_dnewK fun σ H Q ⟨H0, O0, ρ, S, G⟩ => ?_
  intro d hd
  exact G _ _ (same_new hd) (.dct upd_same fun z => S.there z hd)
/-- a constant of the text's top -/
def GlI (mg : Str → Option Value) (x : Str) (i : Int) : Prop := ∃ t, mg x = some (.int i t)
theorem e_glI {x : Str} {i : Int} (h : GlI X.mg x i) (hg : Gl X x) (hd : (x == ("__debug__" : Str)) = false := by decide) : EJ X W .s (.Name x pos) (eC (.int i)) := by
  obtain ⟨t, h⟩ := h
  exact e_const (pe_glob hg h (v := .int i) ⟨t, rfl⟩ hd) fun _ _ _ => .int i
def GlS (mg : Str → Option Value) (x : Str) (s : Str) : Prop := ∃ t, mg x = some (.str s t)
theorem e_glS {x s : Str} (h : GlS X.mg x s) (hg : Gl X x) (hd : (x == ("__debug__" : Str)) = false := by decide) : EJ X W .s (.Name x pos) (eC (.str s)) := by
  obtain ⟨t, h⟩ := h
  exact e_const (pe_glob hg h (v := .str s) ⟨t, rfl⟩ hd) fun _ _ _ => .str s
end
def NN (g : Rho → Out) : Prop := ∀ l ρ, g l ≠ .next ρ
theorem nn_e {f : Rho → R PV} {k : PV → Rho → Out} (h : ∀ p l ρ, k p l ≠ .next ρ) : NN (sE f k) := by
  intro l ρ e
  unfold sE at e
  revert e
  cases f l with
  | ok p => exact h p l ρ
  | exc c => exact fun e => nomatch e
  | stuck => exact fun e => nomatch e
theorem nn_ret (f : Rho → R PV) : NN (sRet f) := nn_e fun _ _ _ e => nomatch e
theorem nn_seqL {g h : Rho → Out} (a : NN g) : NN (bSeq g h) := by
  intro l ρ e
  unfold bSeq at e
  have n := a l
  revert e n
  cases g l with
  | next ρ1 => exact fun _ n => absurd rfl (n ρ1)
  | _ => exact fun e => nomatch e
section
variable {K : PySem.W.Frag} {h : Heap} {mg : Str → Option Value}
theorem defE_mk (X : K.In h) (G : h.Ns mainGlobals mg) {x : Str} {st : Stmt} {ps : List Str} {f : Addr} {od an : Option Addr} {sl : Array (Option Value)} {oc kV dc pm cd ct : Value}
    (a : PySem.W.nsIn K mainGlobals x = some (some (.ref f))) (l : K.lookup f = some ⟨oc, od, .func (PySem.W.fnOf x x (defArgs st) (defBody st) (defScope st) .none kV dc pm an cd ct), sl⟩) (c : PySem.W.codeIn K cd x = true) (k : PySem.W.keepIn K (.ref f) = true)
    (hb : ∀ (kV doc pm : Value) (an : Option Addr) (cdv ct : Value) (us : List Value), us.length = ps.length → bindArgs (PySem.W.fnOf x x (defArgs st) (defBody st) (defScope st) .none kV doc pm an cdv ct) ⟨us, []⟩ = pure (ps.zip us)) : DefE K mg x st ps :=
  ⟨f, _, fun_mk l c k, PySem.W.mg_of X G a, (fun_mk l c k).binds hb⟩
theorem glI_mk (X : K.In h) (G : h.Ns mainGlobals mg) {x : Str} {i : Int} {t : Tok} (a : PySem.W.nsIn K mainGlobals x = some (some (.int i t))) : GlI mg x i := ⟨t, PySem.W.mg_of X G a⟩
theorem glS_mk (X : K.In h) (G : h.Ns mainGlobals mg) {x s : Str} {t : Tok} (a : PySem.W.nsIn K mainGlobals x = some (some (.str s t))) : GlS mg x s := ⟨t, PySem.W.mg_of X G a⟩
theorem excE_mk (X : K.In h) (G : h.Ns mainGlobals mg) {x : Str} {C : Addr} (a : PySem.W.nsIn K mainGlobals x = some (some (.ref C))) (ex : PySem.W.excIn K C [.type "ValueError", .type "Exception", .type "BaseException", .type "object"] "ValueError.__new__" = true)
    (kp : PySem.W.keepIn K (.ref C) = true) (sb : PySem.W.subIn K (.ref C) (.type "BaseException") = some true) (ty : PySem.W.typeIn K (.ref C) = some (.type "type")) : ∃ C, ExcT K mg x C := ⟨C, PySem.W.mg_of X G a, ex, kp, sb, ty⟩
end
end PL
set_option Elab.async false
set_option linter.all false
set_option maxRecDepth 100000
set_option autoImplicit false
namespace PL
open PySem PySem.Spec L2
open PyProof.Rows hiding St
/-- the classes of errors: the one is under the other -/
def subX (c d : Str) : Bool := d == c || d == "LeftError" || d == "ValueError"
/-- a class that isinstance is asked about -/
def ClsQ (K : PySem.W.Frag) (mg : Str → Option Value) (C : Addr) (c d : Str) (u : Value) : Prop := PySem.W.kitOne K (.ref C) u = some (subX c d)
/-- the caught error p, of the class c -/
structure Pn (K : PySem.W.Frag) (mg : Str → Option Value) (p : Addr × Obj) (c : Str) (C : Addr) : Prop where
  g : mg c = some (.ref C)
  x : ExcC K C
  z : Zc (.ref C) none p.2
  f : ∃ vs, p.2.data = .fields vs
/-- the context bears the caught error a, of the class c -/
def InAir (X : Cx) (a : Addr) (c : Str) : Prop := ∃ oe C, (a, oe) ∈ X.pn ∧ Pn X.K X.mg (a, oe) c C
def isX (i : Nat) (a : Addr) (b : Bool) : Rho → R PV := fun ρ => match ρ[i]? with
  | some (.ex a') => if a' = a then .ok (.bl b) else .stuck
  | _ => .stuck
section
variable {X : Cx} {W : WX} {e en : Expr} {pos p : Pos} {i : Nat} {a : Addr} {c d : Str} {b : Bool}
/-- a name that stands for a class d, u in the heap -/
inductive ClsN (X : Cx) : Expr → Str → Value → Prop where
  | own {x : Str} {C : Addr} {q : Pos} (hg : Gl X x) (hm : X.mg x = some (.ref C)) (hd : (x == ("__debug__" : Str)) = false) : ClsN X (.Name x q) x (.ref C)
  | ty {x : Str} {n : String} {q : Pos} (h : PE X (.Name x q) (tC (.ty n))) : ClsN X (.Name x q) x (.type n)
theorem ClsN.pe {u : Value} (h : ClsN X en d u) : ∃ v, ClsV v u ∧ PE X en (tC v) := by
  cases h with
  | own hg hm hd => exact ⟨_, .own _, pe_glob hg hm (v := .ref _) rfl hd⟩
  | ty h => exact ⟨_, .ty _, h⟩
theorem inst_at {X : Cx} {a C : Addr} {oe : Obj} {s : Shared} (P : Pn X.K X.mg (a, oe) c C) (hget : s.heap.get? a = some oe) : PySem.W.InstAt s.heap a oe C none := by
  obtain ⟨vs, hv⟩ := P.f
  have hz := P.z
  obtain ⟨k1, k2, k3, k4⟩ := oe
  obtain ⟨h1, h2⟩ := hz
  simp only at h1 h2 hv
  subst h1 h2 hv
  exact ⟨hget, rfl, rfl, trivial⟩
theorem call_isX {C : Addr} {oe : Obj} (hp : (a, oe) ∈ X.pn) (P : Pn X.K X.mg (a, oe) c C) : CallR X (.builtin "isinstance") (fun xs H Q => ∃ v u b, xs = [V.ref a, v] ∧ ClsV v u ∧ PySem.W.kitOne X.K (.ref C) u = some b ∧ Q (.bl b) H) := by
  intro pins s σ H xs us Q I r ⟨v, u, b, e1, k, e2, q⟩
  subst e1
  obtain ⟨w1, w2, e3, r1, r2⟩ := vals2 r
  subst e3
  cases (show w1 = Value.ref a from r1)
  have e4 := k.eq r2
  subst e4
  have J := inst_at P (I.pin (a, oe) (List.mem_append_left _ hp)).1
  exact PySem.W.kia_one (PySem.W.handS_kitx_exc P.x.hg P.x.hk P.x.hs P.x.hd P.x.ha P.x.hn P.x.ht P.x.hm) I.kIn J e2 (fun z => nomatch z) fun tk => ⟨.bl b, H, I.tok tk, rfl, q⟩
theorem exs_at {K : PySem.W.Frag} {H0 H : Hp} {O0 : Addr → Prop} {σ : St} {ρ : Rho} (S : StR K H0 O0 H σ ρ) (h : ρ[i]? = some (.ex a)) : σ[i]? = some (some (.ref a)) := S.exs i a h
/-- isinstance(e, D), e the caught error -/
theorem e_isX {u : Value} (A : InAir X a c) (mg : X.mg "isinstance" = none) (hg : Gl X "isinstance") (ho : PE X e (tVar i)) (hn : ClsN X en d u) (hk : ∀ C, X.mg c = some (.ref C) → ClsQ X.K X.mg C c d u) (he : starEach [e, en] X.env = (false, eval e X.env) :: starEach [en] X.env := by rfl) (he2 : starEach [en] X.env = (false, eval en X.env) :: starEach [] X.env := by rfl) (hpl : (backTo pos (starEach [en] X.env)).any (·.1) = false := by rfl) :
    EJ X W .s (.Call (.Name "isinstance" p) [e, en] [] pos) (isX i a (subX c d)) := by
  obtain ⟨oe, C, hp, P⟩ := A
  obtain ⟨v, hv, hpe⟩ := hn.pe
  refine pe_imp (pe_callB (call_isX hp P) hg mg PyProof.Rows.boot_isinstance (pa_cons ho (pa_cons hpe pa_nil he2) he) (by decide) (by decide) he hpl) fun σ H Q ⟨H0, O0, ρ, S, G⟩ => ?_
  unfold isX at G
  split at G
  · rename_i a' ha
    split at G
    · rename_i ea
      subst ea
      exact ⟨.ref a', exs_at S ha, v, u, _, rfl, hv, hk C P.g, G _ _ (Same.refl _) (.bl _)⟩
    · exact G.elim
  · exact G.elim
end
section
variable {P : Program} {w : World} {K : PySem.W.Frag} {mg : Str → Option Value} {base : Heap} {CX : CXT}
/-- of the caught error alone -/
def spX (K : PySem.W.Frag) (mg : Str → Option Value) (nw : Bool) (a : Addr) (F : R PV) : Sp := fun vs H Q _ =>
  ∃ O, (∀ b, O b → H b ≠ none) ∧ vs = [.ref a] ∧ (match F with
    | .ok p => ∀ v H', Same H H' → RepR K O nw H H' v p → Q v H'
    | _ => False)
/-- n slots, the first of them the error's -/
def runX (n : Nat) (g : Rho → Out) (a : Addr) : R PV := match g (.ex a :: List.replicate (n - 1) Slot.un) with
  | .ret p => .ok p
  | .next _ => .ok .non
  | .exc c _ => .exc c
  | _ => .stuck
theorem startX {H : Hp} {O : Addr → Prop} {N : List Str} {a : Addr} (hN : 0 < N.length) (al : ∀ b, O b → H b ≠ none) : StR K H O H (L2.start N [.ref a]) (.ex a :: List.replicate (N.length - 1) Slot.un) := by
  have noown : ∀ (i : Nat) qs, (Slot.ex a :: List.replicate (N.length - 1) Slot.un)[i]? ≠ some (.own qs) := fun i qs e => by
    have := List.mem_of_getElem? e
    rcases List.mem_cons.mp this with z | z
    · cases z
    · cases (List.mem_replicate.mp z).2
  refine ⟨by unfold L2.start; simp, Same.refl H, al, fun i qs h => absurd h (noown i qs), fun i j b qs rs h => absurd h (noown i qs), fun i p h => ?_, fun i b h => ?_, fun i b l h => by
    have := List.mem_of_getElem? h
    rcases List.mem_cons.mp this with z | z
    · cases z
    · cases (List.mem_replicate.mp z).2⟩
  · have := List.mem_of_getElem? h
    rcases List.mem_cons.mp this with z | z
    · cases z
    · cases (List.mem_replicate.mp z).2
  · cases i with
    | zero => cases h; rfl
    | succ i =>
      have := List.mem_of_getElem? (show (List.replicate (N.length - 1) Slot.un)[i]? = some (.ex b) from h)
      cases (List.mem_replicate.mp this).2
end
/-- the call of such a def -/
def hotC (i : Nat) (a : Addr) (F : Addr → R PV) : Rho → R PV := fun ρ => match ρ[i]? with
  | some (.ex a') => if a' = a then (match F a with
    | .ok p => .ok p
    | _ => .stuck) else .stuck
  | _ => .stuck
/-- behind the suite -/
def behindX (i : Nat) : Out → Out
  | .next ρ => .next (ρ.set i .un)
  | .brk ρ => .brk (ρ.set i .un)
  | .cont ρ => .cont (ρ.set i .un)
  | .ret p => .ret p
  | _ => .stuck
open Classical in
noncomputable def tryX (i : Nat) (su : Addr → Rho → Out) (ρ : Rho) : Out := if h : ∃ o, ∀ a, behindX i (su a (ρ.set i (.ex a))) = o then h.choose else .stuck
theorem tryX_of {i : Nat} {su : Addr → Rho → Out} {ρ : Rho} {o : Out} (h : ∀ a, behindX i (su a (ρ.set i (.ex a))) = o) : tryX i su ρ = o := by
  have hx : ∃ o, ∀ a, behindX i (su a (ρ.set i (.ex a))) = o := ⟨o, h⟩
  unfold tryX
  rw [dif_pos hx]
  exact (hx.choose_spec 0).symm.trans (h 0)
theorem tryX_at {i : Nat} {su : Addr → Rho → Out} {ρ : Rho} (h : tryX i su ρ ≠ .stuck) (a : Addr) : behindX i (su a (ρ.set i (.ex a))) = tryX i su ρ := by
  by_cases hx : ∃ o, ∀ a, behindX i (su a (ρ.set i (.ex a))) = o
  · obtain ⟨o, ho⟩ := hx
    rw [tryX_of ho, ho a]
  · unfold tryX at h
    rw [dif_neg hx] at h
    exact absurd rfl h
/-- the context of the suite -/
def suiteC (X : Cx) (a : Addr) (pn : List (Addr × Obj)) : Cx := X.suite a pn
theorem roomS {X : Cx} {k : Nat} {a : Addr} {pn : List (Addr × Obj)} (hr : Room k X.A) : L2H.RoomH k (suiteC X a pn).A := ⟨hr.dp, hr.un⟩
/-- cs: the classes that the clause may take -/
noncomputable def sTry (i : Nat) (cs : List Str) (body : Rho → Out) (su : Str → Addr → Rho → Out) : Rho → Out := fun ρ => match body ρ with
  | .exc c ρ' => if c ∈ cs then tryX i (su c) ρ' else .stuck
  | o => o
theorem takesN {X : Cx} : L2N.Takes X (fun _ _ _ _ => False) := fun _ _ x => by
  obtain ⟨_, _, _, _, _, _, _, _, _, _, _, _, _, _, _, _, z⟩ := x
  exact z.elim
def KQ (K : PySem.W.Frag) (mg : Str → Option Value) (c d : Str) : Prop := ∀ C D, mg c = some (.ref C) → mg d = some (.ref D) → PySem.W.kitOne K (.ref C) (.ref D) = some (subX c d)
def KE (K : PySem.W.Frag) (mg : Str → Option Value) (c d : Str) : Prop := ∀ C D, mg c = some (.ref C) → mg d = some (.ref D) → PySem.W.exmOne K (.ref C) (.ref D) = some true ∧ ExcC K C
theorem fa_nil {α : Type} {P : α → Prop} : ∀ c ∈ ([] : List α), P c := fun _ h => nomatch h
theorem fa_cons {α : Type} {P : α → Prop} {c : α} {l : List α} (h : P c) (r : ∀ c ∈ l, P c) : ∀ d ∈ c :: l, P d := fun d hd => by
  rcases List.mem_cons.mp hd with e | hd
  · rw [e]; exact h
  · exact r d hd
section
variable {K : PySem.W.Frag} {h : Heap} {mg : Str → Option Value} {c d : Str} {U V' : Addr}
theorem kq_mk (X : K.In h) (G : h.Ns mainGlobals mg) {b : Bool} (a1 : PySem.W.nsIn K mainGlobals c = some (some (.ref U))) (a2 : PySem.W.nsIn K mainGlobals d = some (some (.ref V'))) (k : PySem.W.kitOne K (.ref U) (.ref V') = some b) (hb : b = subX c d) : KQ K mg c d := fun C D h1 h2 => by
  cases h1.symm.trans (PySem.W.mg_of X G a1)
  cases h2.symm.trans (PySem.W.mg_of X G a2)
  rw [← hb]; exact k
theorem subX_VE {c : Str} : subX c "ValueError" = true := by
  unfold subX
  rw [show (("ValueError" : Str) == "ValueError") = true by decide, Bool.or_true]
theorem kv_mk (X : K.In h) (G : h.Ns mainGlobals mg) (a1 : PySem.W.nsIn K mainGlobals c = some (some (.ref U))) (k : PySem.W.kitOne K (.ref U) (.type "ValueError") = some true) : ∀ C, mg c = some (.ref C) → PySem.W.kitOne K (.ref C) (.type "ValueError") = some (subX c "ValueError") := fun C h1 => by
  cases h1.symm.trans (PySem.W.mg_of X G a1)
  rw [subX_VE]
  exact k
def KO (K : PySem.W.Frag) (mg : Str → Option Value) (c d : Str) : Prop := ∀ C D, mg c = some (.ref C) → mg d = some (.ref D) → PySem.W.exmOne K (.ref C) (.ref D) = some true
theorem ko_mk (X : K.In h) (G : h.Ns mainGlobals mg) (a1 : PySem.W.nsIn K mainGlobals c = some (some (.ref U))) (a2 : PySem.W.nsIn K mainGlobals d = some (some (.ref V'))) (lb : PySem.W.subIn K (.ref V') (.type "BaseException") = some true) (ld : PySem.W.hasDictIn K V' = true) (lt : PySem.W.typeIn K (.ref V') = some (.type "type")) (s : PySem.W.subIn K (.ref U) (.ref V') = some true) : KO K mg c d := fun C D h1 h2 => by
  cases h1.symm.trans (PySem.W.mg_of X G a1)
  cases h2.symm.trans (PySem.W.mg_of X G a2)
  exact PySem.W.exm_ref lb ld lt s
theorem ke_mk (X : K.In h) (G : h.Ns mainGlobals mg) (a1 : PySem.W.nsIn K mainGlobals c = some (some (.ref U))) (a2 : PySem.W.nsIn K mainGlobals d = some (some (.ref V'))) (lb : PySem.W.subIn K (.ref V') (.type "BaseException") = some true) (ld : PySem.W.hasDictIn K V' = true) (lt : PySem.W.typeIn K (.ref V') = some (.type "type")) (s : PySem.W.subIn K (.ref U) (.ref V') = some true) (x : ExcC K U) : KE K mg c d := fun C D h1 h2 => by
  cases h1.symm.trans (PySem.W.mg_of X G a1)
  cases h2.symm.trans (PySem.W.mg_of X G a2)
  exact ⟨PySem.W.exm_ref lb ld lt s, x⟩
end
end PL
set_option Elab.async false
set_option linter.all false
set_option maxRecDepth 100000
set_option autoImplicit false
namespace PL
open PySem PySem.Spec L2
open PyProof.Rows hiding St
end PL
set_option Elab.async false
set_option linter.all false
set_option maxRecDepth 100000
set_option autoImplicit false
namespace PL
open PySem PySem.Spec L2
open PyProof.Rows hiding St
end PL
set_option Elab.async false
set_option linter.all false
set_option maxRecDepth 100000
set_option autoImplicit false
namespace PL
open PySem PySem.Spec L2
open PyProof.Rows hiding St
end PL
set_option Elab.async false
set_option linter.all false
set_option maxRecDepth 100000
set_option autoImplicit false
namespace PL
open PySem PySem.Spec L2
open PyProof.Rows hiding St
/-- an equation that is not taken for a computation -/
theorem nr {α : Sort _} {a b : α} (h : a = b) : a = b := h
section
variable {p q x y : PV} {ρ : Rho} {f g h : Rho → R PV} {i j : Nat} {a b c : Int} {k l : Bool} {ps qs : List PV} {s t : Slot}
@[simp] theorem eC_eq : eC p ρ = .ok p := nr rfl
@[simp] theorem eV0 : eV 0 (.val p :: ρ) = .ok p := nr rfl
@[simp] theorem eVs : eV (i + 1) (s :: ρ) = eV i ρ := by simp [eV]
@[simp] theorem eVo0 : eVo 0 (.val p :: ρ) = .ok p := nr rfl
@[simp] theorem eVo0' : eVo 0 (.own ps :: ρ) = .ok (.lst ps) := nr rfl
@[simp] theorem eVos : eVo (i + 1) (s :: ρ) = eVo i ρ := by simp [eVo]
@[simp] theorem bind1 {α β : Type} (a : α) (k : α → R β) : (R.ok a).bind k = k a := nr rfl
@[simp] theorem bind2 {α β : Type} (c : Str) (k : α → R β) : (R.exc c : R α).bind k = .exc c := nr rfl
@[simp] theorem bind3 {α β : Type} (k : α → R β) : (R.stuck : R α).bind k = .stuck := nr rfl
@[simp] theorem e2_eq {w : PV → PV → R PV} : e2 w f g ρ = (f ρ).bind fun x => (g ρ).bind fun y => w x y := nr rfl
@[simp] theorem e1_eq {w : PV → R PV} : e1 w f ρ = (f ρ).bind w := nr rfl
@[simp] theorem eD_eq {w : List PV → R PV} {fA : Rho → R (List PV)} : eD w fA ρ = (fA ρ).bind w := nr rfl
@[simp] theorem aNil_eq : aNil ρ = .ok [] := nr rfl
@[simp] theorem aCons_eq {fA : Rho → R (List PV)} : aCons f fA ρ = (f ρ).bind fun p => (fA ρ).bind fun ps => .ok (p :: ps) := nr rfl
@[simp] theorem tB1_eq : tB1 f ρ = (f ρ).bind asB := nr rfl
@[simp] theorem asB_eq : asB (.bl k) = .ok k := nr rfl
@[simp] theorem asI_eq : asI (.int a) = .ok a := nr rfl
@[simp] theorem tNt_eq {u : Rho → R Bool} : tNt u ρ = (u ρ).bind fun b => .ok (!b) := nr rfl
@[simp] theorem tAn_eq {u v : Rho → R Bool} : tAn u v ρ = (u ρ).bind fun b => if b = true then v ρ else .ok false := nr rfl
@[simp] theorem tOr_eq {u v : Rho → R Bool} : tOr' u v ρ = (u ρ).bind fun b => if b = true then .ok true else v ρ := nr rfl
@[simp] theorem eAn_eq : eAn f g ρ = (f ρ).bind fun p => (asB p).bind fun b => if b = true then g ρ else .ok (.bl false) := nr rfl
@[simp] theorem eOr_eq : eOr f g ρ = (f ρ).bind fun p => (asB p).bind fun b => if b = true then .ok (.bl true) else g ρ := nr rfl
@[simp] theorem notP_eq : notP (.bl k) = .ok (.bl (!k)) := nr rfl
@[simp] theorem negP_eq : negP (.int a) = .ok (.int (-a)) := nr rfl
@[simp] theorem eIf_eq {u : Rho → R Bool} : eIf u f g ρ = (u ρ).bind fun b => if b = true then f ρ else g ρ := nr rfl
@[simp] theorem eChain_eq {w1 w2 : PV → PV → R PV} : eChain w1 w2 f g h ρ = (f ρ).bind fun x => (g ρ).bind fun y => (w1 x y).bind fun z => (asB z).bind fun k => if k = true then (h ρ).bind fun w => w2 y w else .ok (.bl false) := nr rfl
@[simp] theorem addP_ii : addP (.int a) (.int b) = .ok (.int (a + b)) := nr rfl
@[simp] theorem iadd_ii : intP (fun _ _ => true) (fun a b => PV.int (a + b)) (.int a) (.int b) = .ok (.int (a + b)) := nr rfl
@[simp] theorem subP_ii : subP (.int a) (.int b) = .ok (.int (a - b)) := nr rfl
@[simp] theorem ltP_ii : ltP (.int a) (.int b) = .ok (.bl (decide (a < b))) := nr rfl
@[simp] theorem leP_ii : leP (.int a) (.int b) = .ok (.bl (decide (a ≤ b))) := nr rfl
@[simp] theorem gtP_ii : gtP (.int a) (.int b) = .ok (.bl (decide (b < a))) := nr rfl
@[simp] theorem geP_ii : geP (.int a) (.int b) = .ok (.bl (decide (b ≤ a))) := nr rfl
theorem mulP_ii (h : okMul a b = true) : mulP (.int a) (.int b) = .ok (.int (a * b)) := by
  show (if okMul a b = true then _ else _) = _
  rw [if_pos h]
theorem modP_ii (h : b ≠ 0) : modP (.int a) (.int b) = .ok (.int (a.fmod b)) := by
  show (if decide (b ≠ 0) = true then _ else _) = _
  rw [if_pos (decide_eq_true h)]
theorem modP_pos (h : 0 < b) : modP (.int a) (.int b) = .ok (.int (a % b)) := by
  rw [modP_ii (by omega), Int.fmod_eq_emod_of_nonneg a (by omega)]
theorem log2_lt {n m : Nat} (h : n < 2 ^ m) (hm : 0 < m) : n.log2 < m := by
  by_cases h0 : n = 0
  · subst h0; simpa using hm
  · exact (Nat.log2_lt h0).mpr h
theorem fdivP_ii (h : b ≠ 0) (h2 : b.natAbs < 2 ^ 9000) : fdivP (.int a) (.int b) = .ok (.int (a.fdiv b)) := by
  show (if okDiv a b = true then _ else _) = _
  have h3 : b.natAbs.log2 < 9000 := log2_lt h2 (by omega)
  rw [if_pos]
  show (decide (b ≠ 0) && decide (b.natAbs.log2 < 9000)) = true
  rw [decide_eq_true h, decide_eq_true h3] <;> rfl
theorem okMul_of {m n : Nat} (ha : a.natAbs < 2 ^ m) (hb : b.natAbs < 2 ^ n) (h : m + n ≤ 100000000) (hm : 0 < m) (hn : 0 < n) : okMul a b = true := by
  have h1 := log2_lt ha hm
  have h2 := log2_lt hb hn
  exact decide_eq_true (by omega)
theorem powP_ii (h0 : 0 ≤ b) (h1 : b ≤ 1000000) (h2 : a.natAbs < 2 ^ 64) : powP (.int a) (.int b) = .ok (.int (a ^ b.toNat)) := by
  show (if okPow a b = true then _ else _) = _
  rw [if_pos]
  show (decide (0 ≤ b) && decide (b ≤ 1000000) && decide (a.natAbs < 2 ^ 64)) = true
  rw [decide_eq_true h0, decide_eq_true h1, decide_eq_true h2] <;> rfl
/-- what may be compared -/
@[simp] theorem okD_int {n : Nat} : okD n (.int a) = true := by cases n <;> rfl
@[simp] theorem okD_bl {n : Nat} : okD n (.bl k) = true := by cases n <;> rfl
@[simp] theorem okD_non {n : Nat} : okD n .non = true := by cases n <;> rfl
@[simp] theorem okD_lst {n : Nat} : okD (n + 1) (.lst ps) = ps.all (okD n) := nr rfl
@[simp] theorem okD_tup {n : Nat} : okD (n + 1) (.tup ps) = ps.all (okD n) := nr rfl
@[simp] theorem okD_frz {n : Nat} : okD (n + 1) (.frz ps) = ps.all (okD n) := nr rfl
@[simp] theorem okD_str {n : Nat} {z : Str} : okD n (.str z) = PyData.strOk z := by cases n <;> rfl
@[simp] theorem eqV_ii : eqV' (.int a) (.int b) = (a == b) := by simp only [eqV']
@[simp] theorem eqV_bb : eqV' (.bl k) (.bl l) = (k == l) := by simp only [eqV']
@[simp] theorem eqV_ss {u v : Str} : eqV' (.str u) (.str v) = (u == v) := by simp only [eqV']
@[simp] theorem eqV_ll : eqV' (.lst ps) (.lst qs) = eqVs ps qs := by simp only [eqV']
@[simp] theorem eqV_tt : eqV' (.tup ps) (.tup qs) = eqVs ps qs := by simp only [eqV']
@[simp] theorem eqVs_nn : eqVs [] [] = true := by simp only [eqVs]
@[simp] theorem eqVs_cc : eqVs (p :: ps) (q :: qs) = (eqV' p q && eqVs ps qs) := by simp only [eqVs]
@[simp] theorem eqVs_cn : eqVs (p :: ps) [] = false := by simp only [eqVs]
@[simp] theorem eqVs_nc : eqVs [] (q :: qs) = false := by simp only [eqVs]
theorem eqP_ok (h : okD 30 p = true) (h2 : okD 30 q = true) : eqP p q = .ok (.bl (eqV' p q)) := by
  unfold eqP; rw [h, h2, Bool.and_self, if_pos rfl]
theorem neP_ok (h : okD 30 p = true) (h2 : okD 30 q = true) : neP p q = .ok (.bl (!eqV' p q)) := by
  unfold neP; rw [h, h2, Bool.and_self, if_pos rfl]
@[simp] theorem eqP_ii : eqP (.int a) (.int b) = .ok (.bl (a == b)) := by rw [eqP_ok okD_int okD_int, eqV_ii]
@[simp] theorem neP_ii : neP (.int a) (.int b) = .ok (.bl (!(a == b))) := by rw [neP_ok okD_int okD_int, eqV_ii]
@[simp] theorem eqP_bb : eqP (.bl k) (.bl l) = .ok (.bl (k == l)) := by rw [eqP_ok okD_bl okD_bl, eqV_bb]
@[simp] theorem neP_bb : neP (.bl k) (.bl l) = .ok (.bl (!(k == l))) := by rw [neP_ok okD_bl okD_bl, eqV_bb]
theorem eqVs_ints : ∀ ns ms : List Int, eqVs (ns.map PV.int) (ms.map PV.int) = (ns == ms)
  | [], [] => by simp
  | [], _ :: _ => by simp
  | _ :: _, [] => by simp
  | n :: ns, m :: ms => by simp only [List.map_cons, eqVs_cc, eqV_ii, eqVs_ints ns ms]; rfl
/-- kinds -/
@[simp] theorem isi_ii : isiP "int" (.int a) = .ok (.bl true) := by have e : kitB "int" "int" = some true := by decide +kernel
                                                                    simp only [isiP, kitP, tyN, e]
@[simp] theorem isi_ib : isiP "int" (.bl k) = .ok (.bl true) := by have e : kitB "bool" "int" = some true := by decide +kernel
                                                                   simp only [isiP, kitP, tyN, e]
@[simp] theorem isi_in : isiP "int" .non = .ok (.bl false) := by have e : kitB "NoneType" "int" = some false := by decide +kernel
                                                                 simp only [isiP, kitP, tyN, e]
@[simp] theorem isi_is {z : Str} : isiP "int" (.str z) = .ok (.bl false) := by have e : kitB "str" "int" = some false := by decide +kernel
                                                                               simp only [isiP, kitP, tyN, e]
@[simp] theorem isi_it : isiP "int" (.tup ps) = .ok (.bl false) := by have e : kitB "tuple" "int" = some false := by decide +kernel
                                                                      simp only [isiP, kitP, tyN, e]
@[simp] theorem isi_il : isiP "int" (.lst ps) = .ok (.bl false) := by have e : kitB "list" "int" = some false := by decide +kernel
                                                                      simp only [isiP, kitP, tyN, e]
@[simp] theorem isi_if : isiP "int" (.frz ps) = .ok (.bl false) := by have e : kitB "list" "int" = some false := by decide +kernel
                                                                      simp only [isiP, kitP, tyN, e]
@[simp] theorem isi_id : isiP "int" .dct = .ok (.bl false) := by have e : kitB "dict" "int" = some false := by decide +kernel
                                                                 simp only [isiP, kitP, tyN, e]
@[simp] theorem isi_bi : isiP "bool" (.int a) = .ok (.bl false) := by have e : kitB "int" "bool" = some false := by decide +kernel
                                                                      simp only [isiP, kitP, tyN, e]
@[simp] theorem isi_bb : isiP "bool" (.bl k) = .ok (.bl true) := by have e : kitB "bool" "bool" = some true := by decide +kernel
                                                                    simp only [isiP, kitP, tyN, e]
@[simp] theorem isi_idt {l : List ((Int × Int) × Int)} : isiP "int" (.dt l) = .ok (.bl false) := by
  have e : kitB "dict" "int" = some false := by decide +kernel
  simp only [isiP, kitP, tyN, e]
@[simp] theorem isi_iobj {C : Addr} {m : List Str} {fs : List PV} : isiP "int" (.obj C m fs) = .ok (.bl false) := by simp [isiP, kitP]
def isT : PV → Bool
  | .tup _ => true
  | _ => false
def isL : PV → Bool
  | .lst _ | .frz _ => true
  | _ => false
def isS : PV → Bool
  | .str _ => true
  | _ => false
theorem isi_str : isiP "str" p = .ok (.bl (isS p)) := by
  have e1 : kitB "NoneType" "str" = some false := by decide +kernel
  have e2 : kitB "bool" "str" = some false := by decide +kernel
  have e3 : kitB "int" "str" = some false := by decide +kernel
  have e4 : kitB "str" "str" = some true := by decide +kernel
  have e5 : kitB "tuple" "str" = some false := by decide +kernel
  have e6 : kitB "list" "str" = some false := by decide +kernel
  have e7 : kitB "dict" "str" = some false := by decide +kernel
  cases p <;> simp [isiP, kitP, tyN, e1, e2, e3, e4, e5, e6, e7, isS]
def isB : PV → Bool
  | .bl _ => true
  | _ => false
theorem isi_bool : isiP "bool" p = .ok (.bl (isB p)) := by
  have e1 : kitB "NoneType" "bool" = some false := by decide +kernel
  have e2 : kitB "bool" "bool" = some true := by decide +kernel
  have e3 : kitB "int" "bool" = some false := by decide +kernel
  have e4 : kitB "str" "bool" = some false := by decide +kernel
  have e5 : kitB "tuple" "bool" = some false := by decide +kernel
  have e6 : kitB "list" "bool" = some false := by decide +kernel
  have e7 : kitB "dict" "bool" = some false := by decide +kernel
  cases p <;> simp [isiP, kitP, tyN, e1, e2, e3, e4, e5, e6, e7, isB]
/-- whole numbers -/
def isW : PV → Bool
  | .int _ => true
  | _ => false
/-- the body of is_whole, of the laws' own -/
@[simp] theorem isW_int (a : Int) : isW (.int a) = true := rfl
theorem whole_eq : (isiP "int" p).bind (fun x => (asB x).bind fun b => if b = true then (isiP "bool" p).bind notP else .ok (.bl false)) = .ok (.bl (isW p)) := by
  rw [isi_bool]
  cases p <;> simp [isW, isB]
/-- statements -/
@[simp] theorem then_next {k : Rho → Out} : (Out.next ρ).then k = k ρ := nr rfl
@[simp] theorem then_ret {k : Rho → Out} : (Out.ret p).then k = .ret p := nr rfl
@[simp] theorem then_exc {k : Rho → Out} {z : Str} : (Out.exc z ρ).then k = .exc z ρ := nr rfl
@[simp] theorem then_stuck {k : Rho → Out} : Out.stuck.then k = .stuck := nr rfl
@[simp] theorem then_brk {k : Rho → Out} : (Out.brk ρ).then k = .brk ρ := nr rfl
@[simp] theorem then_cont {k : Rho → Out} : (Out.cont ρ).then k = .cont ρ := nr rfl
@[simp] theorem bNil_eq : bNil ρ = .next ρ := nr rfl
@[simp] theorem bSeq_eq {u v : Rho → Out} : bSeq u v ρ = (u ρ).then v := nr rfl
/-- an expression's end within a statement -/
def R.st (r : R PV) (ρ : Rho) (k : PV → Out) : Out := match r with
  | .ok p => k p
  | .exc c => .exc c ρ
  | .stuck => .stuck
@[simp] theorem st_ok {k : PV → Out} : (R.ok p).st ρ k = k p := nr rfl
@[simp] theorem st_exc {k : PV → Out} {z : Str} : (R.exc z).st ρ k = .exc z ρ := nr rfl
@[simp] theorem st_stuck {k : PV → Out} : (R.stuck : R PV).st ρ k = .stuck := nr rfl
@[simp] theorem sE_eq {k : PV → Rho → Out} : sE f k ρ = (f ρ).st ρ fun p => k p ρ := nr rfl
@[simp] theorem sSet_eq : sSet i f ρ = (f ρ).st ρ fun p => .next (ρ.set i (.val p)) := nr rfl
@[simp] theorem sRet_eq : sRet f ρ = (f ρ).st ρ fun p => .ret p := nr rfl
@[simp] theorem sDrop_eq : sDrop f ρ = (f ρ).st ρ fun _ => .next ρ := nr rfl
@[simp] theorem sRaise_eq {z : Str} : sRaise z ρ = .exc z ρ := nr rfl
@[simp] theorem sPass_eq : sPass ρ = .next ρ := nr rfl
@[simp] theorem sTo_eq {w : PV → Rho → Option Rho} : sTo w f ρ = (f ρ).st ρ fun p => match w p ρ with | some ρ' => .next ρ' | none => .stuck := nr rfl
def R.stB (r : R Bool) (ρ : Rho) (k : Bool → Out) : Out := match r with
  | .ok p => k p
  | .exc c => .exc c ρ
  | .stuck => .stuck
@[simp] theorem stB_ok {k : Bool → Out} {b : Bool} : (R.ok b).stB ρ k = k b := nr rfl
@[simp] theorem stB_exc {k : Bool → Out} {z : Str} : (R.exc z).stB ρ k = .exc z ρ := nr rfl
@[simp] theorem stB_stuck {k : Bool → Out} : (R.stuck : R Bool).stB ρ k = .stuck := nr rfl
@[simp] theorem sIf_eq {u : Rho → R Bool} {v w : Rho → Out} : sIf u v w ρ = (u ρ).stB ρ fun b => if b = true then v ρ else w ρ := by
  unfold sIf R.stB
  cases u ρ with
  | ok b => cases b <;> simp
  | exc c => rfl
  | stuck => rfl
def Out.res (o : Out) : R PV := match o with
  | .ret p => .ok p
  | .next _ => .ok .non
  | .exc c _ => .exc c
  | _ => .stuck
@[simp] theorem res_ret : (Out.ret p).res = .ok p := nr rfl
@[simp] theorem res_next : (Out.next ρ).res = .ok .non := nr rfl
@[simp] theorem res_exc {z : Str} : (Out.exc z ρ).res = .exc z := nr rfl
theorem runF_eq {n : Nat} {u : Rho → Out} : runF n u ps = (u (ps.map Slot.val ++ List.replicate (n - ps.length) Slot.un)).res := rfl
@[simp] theorem gN_eq : gN i p ρ = some (ρ.set i (.val p)) := nr rfl
@[simp] theorem gT_eql {w : List PV → Rho → Option Rho} : gT w (.lst ps) ρ = w ps ρ := nr rfl
@[simp] theorem gT_eq {w : List PV → Rho → Option Rho} : gT w (.tup ps) ρ = w ps ρ := nr rfl
@[simp] theorem gsCons_eq {u : PV → Rho → Option Rho} {w : List PV → Rho → Option Rho} : gsCons u w (p :: ps) ρ = (u p ρ).bind (w ps) := nr rfl
@[simp] theorem sAug0 {w : PV → PV → R PV} : sAug i w f ρ = (match ρ[i]? with
  | some (.val x) => ((f ρ).bind fun y => w x y).st ρ fun z => .next (ρ.set i (.val z))
  | _ => .stuck) := nr rfl
@[simp] theorem lenP_l : lenP [.lst ps] = .ok (.int ps.length) := nr rfl
@[simp] theorem lenP_t : lenP [.tup ps] = .ok (.int ps.length) := nr rfl
@[simp] theorem lenP_f : lenP [.frz ps] = .ok (.int ps.length) := nr rfl
theorem size_ok {n : Nat} (h : n ≤ 1000000) : n ≤ sizeLine := by rw [sizeLine_eq]; omega
theorem lstP_ok (h : ps.length ≤ 1000000) : lstP ps = .ok (.lst ps) := by unfold lstP; rw [if_pos (size_ok h)]
theorem tupP_ok (h : ps.length ≤ 1000000) : tupP ps = .ok (.tup ps) := by unfold tupP; rw [if_pos (size_ok h)]
@[simp] theorem lstP0 : lstP [] = .ok (.lst []) := lstP_ok (by simp)
@[simp] theorem tupP0 : tupP [] = .ok (.tup []) := tupP_ok (by simp)
@[simp] theorem tupP1 : tupP [p] = .ok (.tup [p]) := tupP_ok (by simp)
@[simp] theorem tupP2 : tupP [p, q] = .ok (.tup [p, q]) := tupP_ok (by simp)
@[simp] theorem tupP3 : tupP [p, q, x] = .ok (.tup [p, q, x]) := tupP_ok (by simp)
@[simp] theorem lstP1 : lstP [p] = .ok (.lst [p]) := lstP_ok (by simp)
@[simp] theorem lstP2 : lstP [p, q] = .ok (.lst [p, q]) := lstP_ok (by simp)
@[simp] theorem lstP3 : lstP [p, q, x] = .ok (.lst [p, q, x]) := lstP_ok (by simp)
@[simp] theorem lstP4 : lstP [p, q, x, y] = .ok (.lst [p, q, x, y]) := lstP_ok (by simp)
/-- places -/
theorem atI_at {α : Type} {l : List α} (h0 : 0 ≤ a) : atI l a = l[a.toNat]? := by
  unfold atI ixN
  rw [if_pos h0]
  by_cases h : a < l.length
  · rw [if_pos h]; rfl
  · rw [if_neg h, List.getElem?_eq_none (by omega)]; rfl
theorem ixP_lst (h0 : 0 ≤ a) (h : ps[a.toNat]? = some p) : ixP (.lst ps) (.int a) = .ok p := by unfold ixP; dsimp only; rw [atI_at h0, h]
theorem ixP_tup (h0 : 0 ≤ a) (h : ps[a.toNat]? = some p) : ixP (.tup ps) (.int a) = .ok p := by unfold ixP; dsimp only; rw [atI_at h0, h]
theorem ixP_frz (h0 : 0 ≤ a) (h : ps[a.toNat]? = some p) : ixP (.frz ps) (.int a) = .ok p := by unfold ixP; dsimp only; rw [atI_at h0, h]
@[simp] theorem ixP_t0 : ixP (.tup (p :: ps)) (.int 0) = .ok p := ixP_tup (by omega) rfl
@[simp] theorem ixP_t1 : ixP (.tup (p :: q :: ps)) (.int 1) = .ok q := ixP_tup (by omega) rfl
@[simp] theorem ixP_t2 : ixP (.tup (p :: q :: x :: ps)) (.int 2) = .ok x := ixP_tup (by omega) rfl
@[simp] theorem ixP_l0 : ixP (.lst (p :: ps)) (.int 0) = .ok p := ixP_lst (by omega) rfl
@[simp] theorem ixP_l1 : ixP (.lst (p :: q :: ps)) (.int 1) = .ok q := ixP_lst (by omega) rfl
@[simp] theorem ixP_l2 : ixP (.lst (p :: q :: x :: ps)) (.int 2) = .ok x := ixP_lst (by omega) rfl
end
def R.stL (r : R (List PV)) (ρ : Rho) (k : List PV → Out) : Out := match r with
  | .ok p => k p
  | .exc c => .exc c ρ
  | .stuck => .stuck
@[simp] theorem stL_ok {k : List PV → Out} {l : List PV} {ρ : Rho} : (R.ok l).stL ρ k = k l := nr rfl
@[simp] theorem sFor_eq {it : Rho → R (List PV)} {tgt : PV → Rho → Option Rho} {body : Rho → Out} {ρ : Rho} : sFor it tgt body ρ = (it ρ).stL ρ fun items => forL tgt body items ρ := nr rfl
@[simp] theorem iR_eq {g : List PV → R (List PV)} {f : Rho → R (List PV)} {ρ : Rho} : iR g f ρ = (f ρ).bind g := nr rfl
@[simp] theorem iS_eq {f : Rho → R PV} {ρ : Rho} : iS f ρ = (f ρ).bind asS := nr rfl
@[simp] theorem iRv_eq {f : Rho → R PV} {ρ : Rho} : iRv f ρ = (f ρ).bind fun p => (asS p).bind fun l => .ok l.reverse := nr rfl
@[simp] theorem asS_l {l : List PV} : asS (.lst l) = .ok l := nr rfl
@[simp] theorem asS_t {l : List PV} : asS (.tup l) = .ok l := nr rfl
@[simp] theorem asS_f {l : List PV} : asS (.frz l) = .ok l := nr rfl
theorem rng2_sm {a b : Int} (h1 : -1000000000000 ≤ a) (h2 : a ≤ 1000000000000) (h3 : -1000000000000 ≤ b) (h4 : b ≤ 1000000000000) : rng2 [.int a, .int b] = .ok (rngL a (b - a).toNat) := nr rfl
theorem lcGo_map {tgt : PV → Rho → Option Rho} {elt : Rho → R PV} {ρ : Rho} (φ : PV → PV) : ∀ (items : List PV), (∀ p ∈ items, ∃ ρ', tgt p ρ = some ρ' ∧ elt ρ' = .ok (φ p)) → lcGo tgt cYes elt ρ items = .ok (items.map φ)
  | [], _ => rfl
  | p :: ps, h => by
    obtain ⟨ρ', h1, h2⟩ := h p List.mem_cons_self
    have ih := lcGo_map φ ps fun q hq => h q (List.mem_cons_of_mem _ hq)
    unfold lcGo
    rw [h1]
    dsimp only [cYes]
    rw [h2]
    dsimp only
    rw [ih]
    rfl
theorem eLc_ok {vs : List Nat} {it : Rho → R (List PV)} {tgt : PV → Rho → Option Rho} {test : Rho → R Bool} {elt : Rho → R PV} {ρ : Rho} {items qs : List PV} (h1 : vs.all (notOwn ρ) = true) (h2 : it ρ = .ok items) (h3 : items.length ≤ 1000000) (h4 : lcGo tgt test elt (wipeR ρ vs) items = .ok qs) : eLc vs it tgt test elt ρ = .ok (.lst qs) := by
  unfold eLc
  rw [if_pos h1, h2, bind1, if_pos (size_ok h3), h4]
end PL
namespace PL
open PySem PySem.Spec L2
open PyProof.Rows hiding St
section
variable {a b : Int} {p : PV} {ps : List PV}
theorem fdivP_sm (h : 0 < b) (h2 : b ≤ 1000000000000000000000000000000000000000000000000000000000000) : fdivP (.int a) (.int b) = .ok (.int (a / b)) := fdivP_ii (by omega) (by omega) |>.trans (by rw [Int.fdiv_eq_ediv_of_nonneg a (by omega)])
theorem mulP_sm (h : -1000000000000000000000000000000000000000000000000000000000000 ≤ a) (h2 : a ≤ 1000000000000000000000000000000000000000000000000000000000000) (h3 : -1000000000000000000000000000000000000000000000000000000000000 ≤ b) (h4 : b ≤ 1000000000000000000000000000000000000000000000000000000000000) : mulP (.int a) (.int b) = .ok (.int (a * b)) :=
  mulP_ii (okMul_of (m := 250) (n := 250) (by omega) (by omega) (by omega) (by omega) (by omega))
theorem powP_sm (h0 : 0 ≤ b) (h1 : b ≤ 1000000) (h2 : -1000000 ≤ a) (h3 : a ≤ 1000000) : powP (.int a) (.int b) = .ok (.int (a ^ b.toNat)) := powP_ii h0 h1 (by omega)
/-- the item at a place, 0 beyond -/
def nth (l : List Int) (a : Int) : Int := l.getD a.toNat 0
theorem nth_mem {l : List Int} (h0 : 0 ≤ a) (h : a < l.length) : nth l a ∈ l := by
  unfold nth
  rw [List.getD_eq_getElem?_getD, List.getElem?_eq_getElem (by omega)]
  exact List.getElem_mem _
theorem getD_map (ns : List Int) (k : Nat) (h : k < ns.length) : (ns.map PV.int)[k]? = some (.int (ns.getD k 0)) := by
  rw [List.getElem?_map, List.getElem?_eq_getElem h, List.getD_eq_getElem?_getD, List.getElem?_eq_getElem h]
  rfl
/-- an item of a written list of ints -/
theorem ixP_ints {ns : List Int} (h0 : 0 ≤ a) (h : a < ns.length) : ixP (.lst (ns.map PV.int)) (.int a) = .ok (.int (nth ns a)) := ixP_lst h0 (getD_map ns _ (by omega))
theorem ixP_intsF {ns : List Int} (h0 : 0 ≤ a) (h : a < ns.length) : ixP (.frz (ns.map PV.int)) (.int a) = .ok (.int (nth ns a)) := ixP_frz h0 (getD_map ns _ (by omega))
end
end PL
namespace PL
open PySem PySem.Spec L2
open PyProof.Rows hiding St
end PL
namespace PL
open PySem PySem.Spec L2
open PyProof.Rows hiding St
theorem eVo_of {ρ : Rho} {i : Nat} {p : PV} (h : ρ[i]? = some (.val p)) : eVo i ρ = .ok p := by unfold eVo; rw [h]
theorem eV_of {ρ : Rho} {i : Nat} {p : PV} (h : ρ[i]? = some (.val p)) : eV i ρ = .ok p := by unfold eV; rw [h]
end PL
set_option Elab.async false
set_option linter.all false
set_option maxRecDepth 100000
set_option autoImplicit false
namespace PL
open PySem PySem.Spec L2
open PyProof.Rows hiding St
end PL
set_option Elab.async false
set_option linter.all false
set_option maxRecDepth 100000
set_option autoImplicit false
namespace PL
open PySem PySem.Spec L2
open PyProof.Rows hiding St
def leastI : List Int → Int
  | [] => 0
  | [n] => n
  | n :: m :: ns => min n (leastI (m :: ns))
theorem leastI_mem : ∀ {ns : List Int}, ns ≠ [] → leastI ns ∈ ns
  | [], h => absurd rfl h
  | [n], _ => List.mem_cons_self
  | n :: m :: ns, _ => by
    have ih := leastI_mem (ns := m :: ns) (fun z => nomatch z)
    show min n (leastI (m :: ns)) ∈ _
    rcases Int.le_total n (leastI (m :: ns)) with h | h
    · rw [Int.min_eq_left h]; exact List.mem_cons_self
    · rw [Int.min_eq_right h]; exact List.mem_cons_of_mem _ ih
theorem leastI_le : ∀ {ns : List Int}, ∀ y ∈ ns, leastI ns ≤ y
  | [], _, h => nomatch h
  | [n], y, h => by rw [List.mem_singleton.mp h]; exact Int.le_refl _
  | n :: m :: ns, y, h => by
    show min n (leastI (m :: ns)) ≤ y
    rcases List.mem_cons.mp h with rfl | h
    · exact Int.min_le_left ..
    · exact Int.le_trans (Int.min_le_right ..) (leastI_le y h)
def sMut0 (i : Nat) (g : List PV → R (List PV)) : Rho → Out := fun ρ => match ρ[i]? with
  | some (.own ps) => (match g ps with
    | .ok qs => .next (ρ.set i (.own qs))
    | _ => .stuck)
  | _ => .stuck
def clearP : List PV → R (List PV) := fun _ => .ok []
def getN (ps : List PV) : PV → Option PV
  | .int k => if 0 ≤ k ∧ k < 1000000 then ps[k.toNat]? else none
  | _ => none
def augN (ps : List PV) : PV → PV → PV → R (List PV)
  | .int k, .int a, .int b => match ixN ps.length k with
    | some j => .ok (ps.set j (.int (a + b)))
    | none => .stuck
  | _, _, _ => .stuck
def sAugI (i : Nat) (fi f : Rho → R PV) : Rho → Out := fun ρ => match ρ[i]? with
  | some (.own ps) => sE fi (fun q ρ => match getN ps q with
    | some x => sE f (fun y ρ => match augN ps q x y with
      | .ok qs => .next (ρ.set i (.own qs))
      | _ => .stuck) ρ
    | none => .stuck) ρ
  | _ => .stuck
end PL
set_option Elab.async false
set_option linter.all false
set_option maxRecDepth 100000
set_option autoImplicit false
namespace PL
open PySem PySem.Spec L2
open PyProof.Rows hiding St
def isBP : PV → PV → R PV
  | .bl a, .bl b => .ok (.bl (decide (a = b)))
  | _, _ => .stuck
def notBP : PV → PV → R PV
  | .bl a, .bl b => .ok (.bl (!decide (a = b)))
  | _, _ => .stuck
@[simp] theorem isBP_bb (a b : Bool) : isBP (.bl a) (.bl b) = .ok (.bl (decide (a = b))) := rfl
@[simp] theorem notBP_bb (a b : Bool) : notBP (.bl a) (.bl b) = .ok (.bl (!decide (a = b))) := rfl
end PL
set_option Elab.async false
set_option linter.all false
set_option maxRecDepth 100000
set_option autoImplicit false
namespace PL
open PySem PySem.Spec L2
open PyProof.Rows hiding St
def kd : PV → Nat
  | .int _ => 0 | .bl _ => 1 | .str _ => 2 | .non => 3 | _ => 4
def kV : V → Nat
  | .int _ => 0 | .bl _ => 1 | .str _ => 2 | .non => 3 | _ => 4
def apart (ps qs : List PV) : Bool := !(ps.map kd == qs.map kd)
end PL
set_option Elab.async false
set_option linter.all false
set_option maxRecDepth 100000
set_option autoImplicit false
namespace PL
open PySem PySem.Spec L2
open PyProof.Rows hiding St
end PL
set_option Elab.async false
set_option linter.all false
set_option maxRecDepth 100000
set_option autoImplicit false
namespace PL
open PySem PySem.Spec L2
open PyProof.Rows hiding St
open PySem.W (EachIs AllAlike Sortable dataLe dataLt alike)
end PL
set_option Elab.async false
set_option linter.all false
set_option maxRecDepth 100000
set_option autoImplicit false
namespace PL
open PySem PySem.Spec L2
open PyProof.Rows hiding St
end PL
set_option Elab.async false
set_option linter.all false
set_option maxRecDepth 100000
set_option autoImplicit false
namespace PL
open PySem PySem.Spec L2
open PyProof.Rows hiding St
end PL
set_option Elab.async false
set_option linter.all false
set_option maxRecDepth 100000
set_option autoImplicit false
namespace PL
open PySem PySem.Spec L2
open PyProof.Rows hiding St
def KeptB (b : Nat) (σ : St) (H H' : Hp) : Prop := ∀ d o, H d = some o → σ[b]? ≠ some (some (.ref d)) → H' d = some o
theorem KeptB.same {b : Nat} {σ : St} {H H' : Hp} (s : Same H H') : KeptB b σ H H' := fun d o h _ => s d o h
theorem KeptB.trans {b : Nat} {σ : St} {H H1 H2 : Hp} (k : KeptB b σ H H1) (l : KeptB b σ H1 H2) : KeptB b σ H H2 := fun d o h n => l d o (k d o h n) n
theorem set_has {ρ : Rho} {b : Nat} {s t : Slot} (h : ρ[b]? = some s) : (ρ.set b t)[b]? = some t := List.getElem?_set_self (List.getElem?_eq_some_iff.mp h).1
section
variable {K : PySem.W.Frag} {O0 : Addr → Prop} {σ : St} {ρ : Rho} {b : Nat} {c c' : List PV} {H0 H H' : Hp}
theorem oo_box (h : ρ[b]? = some (.own c)) {a : Addr} : OO O0 σ (ρ.set b (.own c')) a ↔ OO O0 σ ρ a := by
  constructor
  · rintro (z | ⟨j, rs, e1, e2⟩)
    · exact .inl z
    · by_cases e : b = j
      · subst e; exact .inr ⟨b, c, h, e2⟩
      · rw [List.getElem?_set_ne e] at e1; exact .inr ⟨j, rs, e1, e2⟩
  · rintro (z | ⟨j, rs, e1, e2⟩)
    · exact .inl z
    · by_cases e : b = j
      · subst e; exact .inr ⟨b, c', set_has h, e2⟩
      · exact .inr ⟨j, rs, by rw [List.getElem?_set_ne e]; exact e1, e2⟩
theorem KeptB.kept (h : ρ[b]? = some (.own c)) (k : KeptB b σ H H') : Kept (OO O0 σ ρ) H (OO O0 σ (ρ.set b (.own c'))) H' := fun a o ha n => ⟨k a o ha fun z => n (.inr ⟨b, c, h, z⟩), fun z => n ((oo_box h).mp z)⟩
end
section
variable {X : Cx} {W : WX} {e a a' : Expr} {pos : Pos} {b : Nat} {f h : Rho → R (PV × List PV)}
def x2 (b : Nat) (g : PV → PV → R PV) (f h : Rho → R (PV × List PV)) : Rho → R (PV × List PV) := fun ρ => (f ρ).bind fun x => (h (ρ.set b (.own x.2))).bind fun y => (g x.1 y.1).bind fun r => .ok (r, y.2)
end
/-- all but the list at a stay -/
def KeptA (a : Addr) (H H' : Hp) : Prop := ∀ d o, H d = some o → d ≠ a → H' d = some o
theorem KeptA.refl (a : Addr) (H : Hp) : KeptA a H H := fun _ _ h _ => h
theorem KeptA.trans {a : Addr} {H H1 H2 : Hp} (k : KeptA a H H1) (l : KeptA a H1 H2) : KeptA a H H2 := fun d o h n => l d o (k d o h n) n
theorem KeptA.same {a : Addr} {H H' : Hp} (s : Same H H') : KeptA a H H' := fun d o h _ => s d o h
theorem KeptB.a {b : Nat} {σ : St} {a : Addr} {H H' : Hp} (h : σ[b]? = some (some (.ref a))) (k : KeptB b σ H H') : KeptA a H H' := fun d o hd n => k d o hd fun z => by rw [h] at z; cases z; exact n rfl
theorem KeptA.b {b : Nat} {σ : St} {a : Addr} {H H' : Hp} (h : σ[b]? = some (some (.ref a))) (k : KeptA a H H') : KeptB b σ H H' := fun d o hd n => k d o hd fun z => n (by rw [z]; exact h)
end PL
set_option Elab.async false
set_option linter.all false
set_option maxRecDepth 100000
set_option autoImplicit false
namespace PL
open PySem PySem.Spec L2
open PyProof.Rows hiding St
end PL
set_option Elab.async false
set_option linter.all false
set_option maxRecDepth 100000
set_option autoImplicit false
namespace PL
open PySem PySem.Spec L2
open PyProof.Rows hiding St
end PL
set_option Elab.async false
set_option linter.all false
set_option maxRecDepth 100000
set_option autoImplicit false
namespace PL
open PySem PySem.Spec L2
open PyProof.Rows hiding St
end PL
set_option Elab.async false
set_option linter.all false
set_option maxRecDepth 100000
set_option autoImplicit false
namespace PL
open PySem PySem.Spec L2
open PyProof.Rows hiding St
end PL
set_option Elab.async false
set_option linter.all false
set_option maxRecDepth 100000
set_option autoImplicit false
namespace PL
open PySem PySem.Spec L2
open PyProof.Rows hiding St
def asStrs : List PV → Option (List Str)
  | [] => some []
  | .str s :: r => (asStrs r).map (s :: ·)
  | _ => none
theorem asStrs_of : ∀ {l : List PV} {ys : List Str}, asStrs l = some ys → l = ys.map PV.str
  | [], _, h => by cases h; rfl
  | p :: r, ys, h => by
    unfold asStrs at h
    split at h
    · rename_i e; cases e
    · rename_i e
      cases e
      obtain ⟨zs, h1, rfl⟩ := Option.map_eq_some_iff.mp h
      rw [asStrs_of h1]; rfl
    · cases h
@[simp] theorem asStrs_map : ∀ ys : List Str, asStrs (ys.map PV.str) = some ys
  | [] => rfl
  | y :: ys => by rw [List.map_cons, asStrs, asStrs_map ys]; rfl
def joinP : PV → PV → R PV
  | .str a, .lst l | .str a, .tup l => match asStrs l with
    | some ys => if (ys.map (·.length)).sum + ys.length * a.length ≤ 16777216 then .ok (.str (Txt.join a ys)) else .stuck
    | none => .stuck
  | _, _ => .stuck
def stwP : PV → PV → R PV
  | .str a, .str b => .ok (.bl (Txt.startswith a b))
  | _, _ => .stuck
def splitP : PV → PV → R PV
  | .str a, .str b => if (b.length == 0) = false ∧ a.length + 2 ≤ sizeLine then .ok (.lst ((Txt.split a b).map PV.str)) else .stuck
  | _, _ => .stuck
/-- a method of a text with one argument -/
def eM (g : PV → PV → R PV) (f h : Rho → R PV) : Rho → R PV := fun ρ => (f ρ).bind fun p => match p with
  | .str _ => (h ρ).bind fun q => g p q
  | _ => .stuck
section
variable {X : Cx} {W : WX} {m1 m : Md} {o e : Expr} {apos pos : Pos} {f h : Rho → R PV}
theorem t_m1 {r : V → List V → Hp → VK → Prop} {g : PV → PV → R PV} (hg : ∀ p q c, g p q ≠ .exc c) (ho : OpS X.K (fun x y H Q => r x [y] H Q) .t m1 m g) : ∀ σ H Q, tE X.K X.mg W m (eM g f h) σ H Q → tM1 r (tE X.K X.mg W .t f) (tE X.K X.mg W m1 h) σ H Q := by
  intro σ H Q ⟨H0, O0, ρ, S, G⟩
  refine ⟨H0, O0, ρ, S, ?_⟩
  revert G
  unfold eM
  cases f ρ with
  | stuck => exact False.elim
  | exc c => exact id
  | ok p =>
    rw [R.bind_ok]
    cases p with
    | str z =>
      intro G x H1 s1 r1
      cases rt_str r1
      refine ⟨⟨z, rfl⟩, H0, O0, ρ, S.step s1, ?_⟩
      revert G
      dsimp only
      cases h ρ with
      | stuck => exact False.elim
      | exc c => exact fun G C H' s' => G C H' (s1.trans s')
      | ok q =>
        intro G y H2 s2 r2
        exact ho S (s1.trans s2) (r1.step s2) (r2.back s1) (Got.v (hg _ q) (s1.trans s2) G)
    | _ => exact False.elim
theorem stwP_exc (p q : PV) (c : Str) : stwP p q ≠ .exc c := by unfold stwP; split <;> exact fun z => nomatch z
theorem joinP_exc (p q : PV) (c : Str) : joinP p q ≠ .exc c := by unfold joinP; split <;> (try split) <;> (try split) <;> exact fun z => nomatch z
theorem splitP_exc (p q : PV) (c : Str) : splitP p q ≠ .exc c := by unfold splitP; split <;> (try split) <;> exact fun z => nomatch z
theorem e_stw (ho : EJ X W .t o f) (he : EJ X W .t e h) (hs : starEach [e] X.env = [(false, eval e X.env)] := by rfl) (hbase : attributeBase o "startswith" X.env (eval o X.env) = eval o X.env := by rfl) (hline : (apos.endLine == pos.line) = true := by rfl) :
    EJ X W .s (.Call (.Attribute o "startswith" apos) [e] [] pos) (eM stwP f h) := by
  refine pe_imp (pe_m1 F.slot_str_startswith F.type_str_startswith mt_startswith ho he hs hbase hline) (t_m1 stwP_exc ?_)
  intro H0 O0 σ ρ H H2 x y p q Q S s rx ry G
  unfold stwP at G
  split at G
  · rw [rt_str rx, rt_str ry]; exact ⟨_, _, rfl, rfl, G _ _ (Same.refl _) (.bl _)⟩
  · exact G.elim
theorem e_split (ho : EJ X W .t o f) (he : EJ X W .t e h) (hs : starEach [e] X.env = [(false, eval e X.env)] := by rfl) (hbase : attributeBase o "split" X.env (eval o X.env) = eval o X.env := by rfl) (hline : (apos.endLine == pos.line) = true := by rfl) :
    EJ X W .f (.Call (.Attribute o "split" apos) [e] [] pos) (eM splitP f h) := by
  refine pe_imp (pe_m1 F.slot_str_split F.type_str_split mt_split ho he hs hbase hline) (t_m1 splitP_exc ?_)
  intro H0 O0 σ ρ H H2 x y p q Q S s rx ry G
  unfold splitP at G
  split at G
  · split at G
    · rename_i hz
      rw [rt_str rx, rt_str ry]
      exact ⟨_, _, rfl, rfl, hz.1, hz.2, fun l hl => G _ _ (same_new hl) (new_lst (H0 := H0) s (Reps.ofStrs _) hl)⟩
    · exact G.elim
  · exact G.elim
theorem e_join (ho : EJ X W .t o f) (he : EJ X W .t e h) (hs : starEach [e] X.env = [(false, eval e X.env)] := by rfl) (hbase : attributeBase o "join" X.env (eval o X.env) = eval o X.env := by rfl) (hline : (apos.endLine == pos.line) = true := by rfl) :
    EJ X W .s (.Call (.Attribute o "join" apos) [e] [] pos) (eM joinP f h) := by
  refine pe_imp (pe_m1 F.slot_str_join F.type_str_join mt_join ho he hs hbase hline) (t_m1 joinP_exc ?_)
  intro H0 O0 σ ρ H H2 x y p q Q S s rx ry G
  unfold joinP at G
  split at G
  · split at G
    · rename_i ys hy
      split at G
      · rename_i hz
        cases asStrs_of hy
        obtain ⟨a, vs, rfl, h1, r1⟩ := rt_lst ry
        cases r1.strs
        rw [rt_str rx]
        exact ⟨_, a, ys, rfl, rfl, .inl (.inl (.inl h1)), hz, G _ _ (Same.refl _) (.str _)⟩
      · exact G.elim
    · exact G.elim
  · split at G
    · rename_i ys hy
      split at G
      · rename_i hz
        cases asStrs_of hy
        obtain ⟨a, vs, rfl, h1, r1⟩ := rt_tup ry
        cases r1.strs
        rw [rt_str rx]
        exact ⟨_, a, ys, rfl, rfl, .inr (sqT_of h1), hz, G _ _ (Same.refl _) (.str _)⟩
      · exact G.elim
    · exact G.elim
  · exact G.elim
def intS : List PV → R PV
  | [.str a] => match PySem.intText? a with
    | some n => if a.length ≤ 640 then .ok (.int n) else .stuck
    | none => .stuck
  | _ => .stuck
theorem intS_exc (ps : List PV) (c : Str) : intS ps ≠ .exc c := by unfold intS; split <;> (try split) <;> (try split) <;> exact fun z => nomatch z
theorem e_intS {p : Pos} {fA : Rho → R (List PV)} (mg : X.mg "int" = none) (hg : Gl X "int") (ha : AJ X W .t [e] fA) (he : starEach [e] X.env = (false, eval e X.env) :: starEach [] X.env := by rfl) : EJ X W .s (.Call (.Name "int" p) [e] [] pos) (eD intS fA) := by
  refine e_callTy call_int_str intS_exc ?_ hg mg (by decide +kernel) ha (he := he)
  intro H0 O0 σ ρ H H2 xs ps Q S s r G
  unfold intS at G
  split at G
  · split at G
    · rename_i n hn
      split at G
      · rename_i hz
        cases r with
        | cons r1 r2 =>
          cases r2
          cases rt_str r1
          exact ⟨_, n, rfl, hn, hz, G _ _ (Same.refl _) (.int _)⟩
      · exact G.elim
    · exact G.elim
  · exact G.elim
def inS : PV → PV → R PV
  | .str x, .str z => match x.cps.toList with
    | [c] => .ok (.bl (decide (c ∈ z.cps.toList)))
    | _ => .stuck
  | _, _ => .stuck
def notInS : PV → PV → R PV
  | .str x, .str z => match x.cps.toList with
    | [c] => .ok (.bl (!decide (c ∈ z.cps.toList)))
    | _ => .stuck
  | _, _ => .stuck
theorem inS_exc (p q : PV) (c : Str) : inS p q ≠ .exc c := by unfold inS; split <;> (try split) <;> exact fun z => nomatch z
theorem notInS_exc (p q : PV) (c : Str) : notInS p q ≠ .exc c := by unfold notInS; split <;> (try split) <;> exact fun z => nomatch z
theorem one_cps {x : Str} {c : Nat} (h : x.cps.toList = [c]) : x = ⟨#[c]⟩ := by
  obtain ⟨a⟩ := x
  exact congrArg Str.mk (Array.toList_inj.mp h)
theorem s_inS (K : PySem.W.Frag) : OpS K (fun x y H Q => ∃ (c : Nat) (z : Str), x = .str ⟨#[c]⟩ ∧ y = .str z ∧ Q (.bl (decide (c ∈ z.cps.toList))) H) .t .t .s inS := by
  intro H0 O0 σ ρ H H2 x y p q Q S s rx ry G
  unfold inS at G
  split at G
  · split at G
    · rename_i c hc
      rw [rt_str rx, rt_str ry]
      exact ⟨c, _, by rw [one_cps hc], rfl, G _ _ (Same.refl _) (.bl _)⟩
    · exact G.elim
  · exact G.elim
theorem s_notInS (K : PySem.W.Frag) : OpS K (fun x y H Q => ∃ (c : Nat) (z : Str), x = .str ⟨#[c]⟩ ∧ y = .str z ∧ Q (.bl (!decide (c ∈ z.cps.toList))) H) .t .t .s notInS := by
  intro H0 O0 σ ρ H H2 x y p q Q S s rx ry G
  unfold notInS at G
  split at G
  · split at G
    · rename_i c hc
      rw [rt_str rx, rt_str ry]
      exact ⟨c, _, by rw [one_cps hc], rfl, G _ _ (Same.refl _) (.bl _)⟩
    · exact G.elim
  · exact G.elim
variable {a b : Expr}
theorem e_inS (ha : EJ X W .t a f) (hb : EJ X W .t b h) (hm : behindInMarks .In b = false := by rfl) : EJ X W .s (.Compare a [.In] [b] pos) (e2 inS f h) := e_cmp op_in_sign inS_exc (s_inS _) ha hb hm
theorem e_notInS (ha : EJ X W .t a f) (hb : EJ X W .t b h) (hm : behindInMarks .NotIn b = false := by rfl) : EJ X W .s (.Compare a [.NotIn] [b] pos) (e2 notInS f h) := e_cmp op_notIn_sign notInS_exc (s_notInS _) ha hb hm
def signsP (x : Str) : List PV := x.cps.toList.map fun c => PV.str ⟨#[c]⟩
def iStrP (f : Rho → R PV) : Rho → R (List PV) := fun ρ => (f ρ).bind fun p => match p with
  | .str x => .ok (signsP x)
  | _ => .stuck
theorem str_it {K : PySem.W.Frag} {x : Str} {O1 : Addr → Prop} {H1 : Hp} : ItOk K (Its x) (signsP x) O1 H1 := by
  have hl : (signsP x).length = x.cps.size := by unfold signsP; rw [List.length_map, Array.length_toList]
  refine ⟨fun i H O k hi => by rw [hl] at hi; exact hi, fun i H O k hi => by rw [hl] at hi; exact hi, fun i H O v H' p k al hp hy => ?_⟩
  obtain ⟨rfl, c, hc, rfl⟩ := hy
  unfold signsP at hp
  rw [List.getElem?_map, Array.getElem?_toList, hc] at hp
  cases hp
  exact ⟨Same.refl _, .str _⟩
theorem i_strP {tg : Expr} (he : EJ X W .t e f) : IJ X W tg e (iStrP f) := by
  refine pi_imp (L2.pi_str he) fun σ H Q ⟨H0, O0, ρ, S, G⟩ => ⟨H0, O0, ρ, S, ?_⟩
  revert G
  unfold iStrP
  cases f ρ with
  | stuck => exact False.elim
  | exc c => exact fun G => G
  | ok p =>
    rw [R.bind_ok]
    cases p with
    | str x =>
      intro G v H1 s1 r1
      cases rt_str r1
      exact ⟨x, rfl, G _ _ s1 str_it⟩
    | _ => exact False.elim
end
end PL
set_option Elab.async false
set_option linter.all false
set_option maxRecDepth 100000
set_option autoImplicit false
namespace PM
open PySem PySem.Spec L2 PL
open PyProof.Rows hiding St
noncomputable def D_is_whole : Rho → Out := (bSeq (sRet (eAn (e1 (isiP "int") (eVo 0)) (e1 notP (e1 (isiP "bool") (eVo 0))))) bNil)
noncomputable def F_is_whole : List PV → R PV := runF 1 D_is_whole
noncomputable def D_is_prime : Rho → Out := (bSeq (sIf (tOr' (tNt (tB1 (eD F_is_whole (aCons (eV 0) aNil)))) (tOr' (tB1 (e2 ltP (eVo 0) (eC (.int 2)))) (tB1 (e2 gtP (eVo 0) (eC (.int 97)))))) (bSeq (sRet (eC (.bl false))) bNil) bNil) (bSeq (sRet (eD allP (aCons (eLc [1] (iR rng2 (aCons (eC (.int 2)) (aCons (eVo 0) aNil))) (gN 1) cYes (e2 neP (e2 modP (eVo 0) (eVo 1)) (eC (.int 0)))) aNil))) bNil))
noncomputable def F_is_prime : List PV → R PV := runF 2 D_is_prime
noncomputable def D_are_figures : Rho → Out := (bSeq (sIf (tNt (tB1 (e1 (isiP2 "list" "tuple") (eVo 1)))) (bSeq (sRet (eC (.bl false))) bNil) bNil) (bSeq (sRet (eD allP (aCons (eLc [2] (iS (eV 1)) (gN 2) cYes (eAn (eD F_is_whole (aCons (eV 2) aNil)) (eChain leP ltP (eC (.int 0)) (eVo 2) (eVo 0)))) aNil))) bNil))
noncomputable def F_are_figures : List PV → R PV := runF 3 D_are_figures
noncomputable def D_left_number : Rho → Out := (bSeq (sIf (tNt (tB1 (eD F_is_prime (aCons (eV 0) aNil)))) (bSeq (sRaise "NoPrime") bNil) bNil) (bSeq (sIf (tNt (tB1 (eD F_is_whole (aCons (eV 1) aNil)))) (bSeq (sRaise "NoPlace") bNil) bNil) (bSeq (sIf (tNt (tB1 (eD F_are_figures (aCons (eV 0) (aCons (eV 2) aNil))))) (bSeq (sRaise "NoFigures") bNil) bNil) (bSeq (sSet 3 (eC (.int 0))) (bSeq (sWh (tAn (tB1 (e2 ltP (eVo 3) (eD lenP (aCons (eVo 2) aNil)))) (tB1 (e2 eqP (e2 ixP (eVo 2) (eVo 3)) (eC (.int 0))))) (bSeq (sAug 3 (intP (fun _ _ => true) fun a b => .int (a + b)) (eC (.int 1))) bNil)) (bSeq (sRet (eD tupP (aCons (eV 0) (aCons (e2 addP (eVo 1) (eVo 3)) (aCons (eD tupleP (aCons (eSl slP (eVo 2) (oSome (eV 3)) oNone) aNil)) aNil))))) bNil))))))
noncomputable def F_left_number : List PV → R PV := runF 4 D_left_number
noncomputable def D_turned : Rho → Out := (bSeq (sSet 2 (eD tupP (aCons (eV 1) (aCons (eC (.int 0)) aNil)))) (bSeq (sSet 3 (eD tupP (aCons (e2 modP (eVo 0) (eVo 1)) (aCons (eC (.int 1)) aNil)))) (bSeq (sWh (tB1 (e2 gtP (e2 ixP (eVo 3) (eC (.int 0))) (eC (.int 0)))) (bSeq (sSet 4 (e2 fdivP (e2 ixP (eVo 2) (eC (.int 0))) (e2 ixP (eVo 3) (eC (.int 0))))) (bSeq (sPar 2 3 (aCons (eV 3) (aCons (eD tupP (aCons (e2 subP (e2 ixP (eVo 2) (eC (.int 0))) (e2 mulP (eVo 4) (e2 ixP (eVo 3) (eC (.int 0))))) (aCons (e2 subP (e2 ixP (eVo 2) (eC (.int 1))) (e2 mulP (eVo 4) (e2 ixP (eVo 3) (eC (.int 1))))) aNil))) aNil))) bNil))) (bSeq (sRet (e2 modP (e2 ixP (eVo 2) (eC (.int 1))) (eVo 1))) bNil))))
noncomputable def F_turned : List PV → R PV := runF 5 D_turned
end PM
set_option Elab.async false
set_option linter.all false
set_option maxRecDepth 100000
set_option autoImplicit false
namespace PM
open PySem PySem.Spec L2 PL
open PyProof.Rows hiding St
theorem f_is_whole (p : PV) : F_is_whole [p] = .ok (.bl (isW p)) := by
  show (D_is_whole [.val p]).res = _
  simp [D_is_whole, whole_eq]
def primesL : List Int := [2, 3, 5, 7, 11, 13, 17, 19, 23, 29, 31, 37, 41, 43, 47, 53, 59, 61, 67, 71, 73, 79, 83, 89, 97]
def isP (p : PV) : Bool := match p with
  | .int n => decide (n ∈ primesL)
  | _ => false
def primesN : List Nat := [2, 3, 5, 7, 11, 13, 17, 19, 23, 29, 31, 37, 41, 43, 47, 53, 59, 61, 67, 71, 73, 79, 83, 89, 97]
theorem primes_tab : ((List.range 98).all fun k => (!decide (2 ≤ k)) || (((List.range (k - 2)).all fun i => !(k % (2 + i) == 0)) == primesN.contains k)) = true := by decide +kernel
theorem primes_by (k : Nat) (hk : k < 98) (h2 : 2 ≤ k) : ((List.range (k - 2)).map fun (i : Nat) => (!(((k : Int) % ((2 : Int) + (i : Int))) == 0))).all id = decide ((k : Int) ∈ primesL) := by
  have h := List.all_eq_true.mp primes_tab k (List.mem_range.mpr hk)
  rw [decide_eq_true h2, Bool.not_true, Bool.false_or, beq_iff_eq] at h
  have e1 : (fun (i : Nat) => (!(((k : Int) % ((2 : Int) + (i : Int))) == 0))) = fun i => !(k % (2 + i) == 0) := by
    funext i
    rw [show ((2 : Int) + (i : Int)) = ((2 + i : Nat) : Int) by omega, ← Int.natCast_emod]
    congr 1
    rw [Bool.eq_iff_iff, beq_iff_eq, beq_iff_eq]
    omega
  rw [e1, List.all_map]
  show ((List.range (k - 2)).all fun i => !(k % (2 + i) == 0)) = _
  rw [h, List.contains_eq_mem]
  have e2 : primesL = primesN.map fun (n : Nat) => (n : Int) := rfl
  rw [Bool.eq_iff_iff, decide_eq_true_eq, decide_eq_true_eq, e2, List.mem_map]
  constructor
  · exact fun z => ⟨k, z, rfl⟩
  · rintro ⟨n, z, e⟩
    rw [show k = n by omega]; exact z
theorem primesL_le : ∀ n ∈ primesL, 2 ≤ n ∧ n ≤ 97 := by decide
def neM (k : Int) : PV → PV
  | .int i => .bl (!((k % i) == 0))
  | _ => .non
theorem prime_hr (k : Nat) (hk : k < 98) (h2 : 2 ≤ k) : iR rng2 (aCons (eC (.int 2)) (aCons (eVo 0) aNil)) [.val (.int (k : Int)), .un] = .ok (rngL 2 (k - 2)) := by
  simp only [iR_eq, aCons_eq, eC_eq, bind1, eVo0, aNil_eq]
  rw [rng2_sm (by omega) (by omega) (by omega) (by omega)]
  rw [show ((k : Int) - 2).toNat = k - 2 by omega]
theorem prime_hm (k : Nat) : lcGo (gN 1) cYes (e2 neP (e2 modP (eVo 0) (eVo 1)) (eC (.int 0))) [.val (.int (k : Int)), .un] (rngL 2 (k - 2)) = .ok ((rngL 2 (k - 2)).map (neM k)) :=
  lcGo_map _ _ fun q hq => by
    unfold rngL at hq
    obtain ⟨i, hi, rfl⟩ := List.mem_map.mp hq
    refine ⟨_, rfl, ?_⟩
    simp only [e2_eq, eVo0, bind1, List.set_cons_succ, List.set_cons_zero, eVos, eC_eq]
    rw [modP_pos (by omega)]
    simp [neM]
theorem prime_map (k : Nat) : (rngL 2 (k - 2)).map (neM k) = (((List.range (k - 2)).map fun (i : Nat) => (!(((k : Int) % ((2 : Int) + (i : Int))) == 0)))).map PV.bl := by
  unfold rngL
  rw [List.map_map, List.map_map]
  rfl
theorem allP_bl (bs : List Bool) : allP [.lst (bs.map PV.bl)] = .ok (.bl (bs.all id)) := by
  unfold allP
  dsimp only
  rw [asBs_of]
def primeBs (k : Nat) : List Bool := (List.range (k - 2)).map fun (i : Nat) => (!(((k : Int) % ((2 : Int) + (i : Int))) == 0))
theorem prime_he (k : Nat) (hk : k < 98) (h2 : 2 ≤ k) : eLc [1] (iR rng2 (aCons (eC (.int 2)) (aCons (eVo 0) aNil))) (gN 1) cYes (e2 neP (e2 modP (eVo 0) (eVo 1)) (eC (.int 0))) [.val (.int (k : Int)), .un] = .ok (.lst ((primeBs k).map PV.bl)) := by
  rw [eLc_ok (vs := [1]) (test := cYes) (ρ := [.val (.int (k : Int)), .un]) rfl (prime_hr k hk h2) (by rw [rngL_len]; omega) (prime_hm k), prime_map]
  rfl
theorem f_is_prime (p : PV) : F_is_prime [p] = .ok (.bl (isP p)) := by
  show (D_is_prime [.val p, .un]).res = _
  by_cases hw : isW p = true
  · cases p with
    | int n =>
      by_cases h2 : n < 2
      · have : ¬ n ∈ primesL := fun h => by have := primesL_le n h; omega
        simp [D_is_prime, f_is_whole, isW, h2, isP, this]
      · by_cases h97 : 97 < n
        · have : ¬ n ∈ primesL := fun h => by have := primesL_le n h; omega
          simp [D_is_prime, f_is_whole, isW, h2, h97, isP, this]
        · obtain ⟨k, rfl⟩ : ∃ k : Nat, n = (k : Int) := ⟨n.toNat, by omega⟩
          unfold D_is_prime
          have hb : (primeBs k).all id = decide ((k : Int) ∈ primesL) := primes_by k (by omega) (by omega)
          simp [D_is_prime, f_is_whole, isW, h2, h97, isP, prime_he k (by omega) (by omega), allP_bl, hb]
    | _ => simp [isW] at hw
  · have hw' : isW p = false := by cases h : isW p <;> simp_all
    have hp : isP p = false := by cases p <;> simp_all [isP, isW]
    simp [D_is_prime, f_is_whole, hw', hp]
end PM
set_option Elab.async false
set_option linter.all false
set_option maxRecDepth 100000
set_option autoImplicit false
namespace PM
open PySem PySem.Spec L2 PL
open PyProof.Rows hiding St
theorem isi_lt (p : PV) : isiP2 "list" "tuple" p = .ok (.bl (isL p || isT p)) := by
  have e1 : kitB "NoneType" "list" = some false := by decide +kernel
  have e2 : kitB "bool" "list" = some false := by decide +kernel
  have e3 : kitB "int" "list" = some false := by decide +kernel
  have e4 : kitB "str" "list" = some false := by decide +kernel
  have e5 : kitB "tuple" "list" = some false := by decide +kernel
  have e6 : kitB "list" "list" = some true := by decide +kernel
  have e7 : kitB "dict" "list" = some false := by decide +kernel
  have d1 : kitB "NoneType" "tuple" = some false := by decide +kernel
  have d2 : kitB "bool" "tuple" = some false := by decide +kernel
  have d3 : kitB "int" "tuple" = some false := by decide +kernel
  have d4 : kitB "str" "tuple" = some false := by decide +kernel
  have d5 : kitB "tuple" "tuple" = some true := by decide +kernel
  have d6 : kitB "list" "tuple" = some false := by decide +kernel
  have d7 : kitB "dict" "tuple" = some false := by decide +kernel
  cases p <;> simp [isiP2, kitP, tyN, e1, e2, e3, e4, e5, e6, e7, d1, d2, d3, d4, d5, d6, d7, isL, isT]
def R.own (r : R (List PV)) (ρ : Rho) (i : Nat) : Out := match r with
  | .ok qs => .next (ρ.set i (.own qs))
  | _ => .stuck
@[simp] theorem own_ok {qs : List PV} {ρ : Rho} {i : Nat} : R.own (.ok qs) ρ i = .next (ρ.set i (.own qs)) := nr rfl
def getOwn (ρ : Rho) (i : Nat) : Option (List PV) := match ρ[i]? with
  | some (.own ps) => some ps
  | _ => none
@[simp] theorem getOwn0 {ps : List PV} {ρ : Rho} : getOwn (.own ps :: ρ) 0 = some ps := nr rfl
@[simp] theorem getOwnS {s : Slot} {ρ : Rho} {i : Nat} : getOwn (s :: ρ) (i + 1) = getOwn ρ i := by simp [getOwn]
def onOwn (o : Option (List PV)) (k : List PV → Out) : Out := match o with
  | some ps => k ps
  | none => .stuck
@[simp] theorem onOwn_some {ps : List PV} {k : List PV → Out} : onOwn (some ps) k = k ps := nr rfl
@[simp] theorem sMut_eq {i : Nat} {g : List PV → PV → R (List PV)} {f : Rho → R PV} {ρ : Rho} : sMut i g f ρ = onOwn (getOwn ρ i) fun ps => (f ρ).st ρ fun p => R.own (g ps p) ρ i := by
  unfold sMut getOwn
  cases ρ[i]? with
  | none => rfl
  | some t => cases t <;> rfl
def asL : PV → R (List PV)
  | .lst l => .ok l
  | _ => .stuck
@[simp] theorem asL_l {l : List PV} : asL (.lst l) = .ok l := nr rfl
@[simp] theorem sSetO_eq {i : Nat} {f : Rho → R PV} {ρ : Rho} : sSetO i f ρ = (f ρ).st ρ fun p => R.own (asL p) ρ i := by
  unfold sSetO sE R.st R.own asL
  cases f ρ with
  | ok p => cases p <;> rfl
  | exc c => rfl
  | stuck => rfl
@[simp] theorem sRetO_eq {i : Nat} {ρ : Rho} : sRetO i ρ = onOwn (getOwn ρ i) fun ps => .ret (.lst ps) := by
  unfold sRetO getOwn
  cases ρ[i]? with
  | none => rfl
  | some t => cases t <;> rfl
def frzR (ρ : Rho) (i : Nat) : Rho := match ρ[i]? with
  | some (.own ps) => ρ.set i (.val (.lst ps))
  | _ => ρ
@[simp] theorem frzR0 {ps : List PV} {ρ : Rho} : frzR (.own ps :: ρ) 0 = .val (.lst ps) :: ρ := nr rfl
@[simp] theorem frzR0v {p : PV} {ρ : Rho} : frzR (.val p :: ρ) 0 = .val p :: ρ := nr rfl
@[simp] theorem frzR0u {ρ : Rho} : frzR (.un :: ρ) 0 = .un :: ρ := nr rfl
@[simp] theorem frzRS {s : Slot} {ρ : Rho} {i : Nat} : frzR (s :: ρ) (i + 1) = s :: frzR ρ i := by
  unfold frzR
  rw [List.getElem?_cons_succ]
  cases ρ[i]? with
  | none => rfl
  | some t => cases t <;> rfl
@[simp] theorem sFrz_eq {i : Nat} {g : Rho → Out} {ρ : Rho} : sFrz i g ρ = g (frzR ρ i) := by
  unfold sFrz frzR
  cases ρ[i]? with
  | none => rfl
  | some t => cases t <;> rfl
@[simp] theorem sSetI_eq {i : Nat} {f fi : Rho → R PV} {ρ : Rho} : sSetI i f fi ρ = onOwn (getOwn ρ i) fun ps => (f ρ).st ρ fun p => (fi ρ).st ρ fun q => R.own (setP ps p q) ρ i := by
  unfold sSetI getOwn
  cases ρ[i]? with
  | none => rfl
  | some t => cases t <;> rfl
theorem setP_ok {l : List PV} {p : PV} {k : Int} (h : 0 ≤ k) (h2 : k < l.length) : setP l p (.int k) = .ok (l.set k.toNat p) := by
  unfold setP ixN
  dsimp only
  rw [if_pos h, if_pos h2]
def Out.fo (o : Out) (k : Rho → Out) : Out := match o with
  | .next ρ => k ρ
  | .cont ρ => k ρ
  | .brk ρ => .next ρ
  | o => o
@[simp] theorem fo_next {ρ : Rho} {k : Rho → Out} : Out.fo (.next ρ) k = k ρ := nr rfl
@[simp] theorem fo_cont {ρ : Rho} {k : Rho → Out} : Out.fo (.cont ρ) k = k ρ := nr rfl
@[simp] theorem fo_brk {ρ : Rho} {k : Rho → Out} : Out.fo (.brk ρ) k = .next ρ := nr rfl
@[simp] theorem fo_ret {p : PV} {k : Rho → Out} : Out.fo (.ret p) k = .ret p := nr rfl
@[simp] theorem fo_exc {c : Str} {ρ : Rho} {k : Rho → Out} : Out.fo (.exc c ρ) k = .exc c ρ := nr rfl
@[simp] theorem forL_nil {tgt : PV → Rho → Option Rho} {body : Rho → Out} {ρ : Rho} : forL tgt body [] ρ = .next ρ := nr rfl
def onR (o : Option Rho) (k : Rho → Out) : Out := match o with
  | some ρ => k ρ
  | none => .stuck
@[simp] theorem onR_some {ρ : Rho} {k : Rho → Out} : onR (some ρ) k = k ρ := nr rfl
theorem forL_cons {tgt : PV → Rho → Option Rho} {body : Rho → Out} {p : PV} {ps : List PV} {ρ : Rho} : forL tgt body (p :: ps) ρ = onR (tgt p ρ) fun ρ1 => Out.fo (body ρ1) (forL tgt body ps) := by
  show (match tgt p ρ with | none => Out.stuck | some ρ1 => match body ρ1 with | .next ρ' => forL tgt body ps ρ' | .cont ρ' => forL tgt body ps ρ' | .brk ρ' => .next ρ' | o => o) = _
  unfold onR Out.fo
  cases tgt p ρ with
  | none => rfl
  | some ρ1 => cases body ρ1 <;> rfl
theorem cut_map {α β : Type} (f : α → β) (l : List α) (lo hi : Option Int) : cutG (l.map f) lo hi = (cutG l lo hi).map f := by
  unfold cutG
  rw [List.length_map, List.map_take, List.map_drop]
theorem sIx_none (n k : Nat) : HT.sIx n k none = k := rfl
theorem cut_drop {α : Type} (l : List α) (k : Int) (h : 0 ≤ k) : cutG l (some k) none = l.drop k.toNat := by
  unfold cutG
  have e : HT.sIx l.length 0 (some k) = min k.toNat l.length := by
    unfold HT.sIx; dsimp only; rw [if_neg (by omega)]
  rw [e, sIx_none]
  rw [List.take_of_length_le (by rw [List.length_drop]; omega)]
  by_cases h2 : k.toNat ≤ l.length
  · rw [Nat.min_eq_left h2]
  · rw [Nat.min_eq_right (by omega), List.drop_eq_nil_of_le (Nat.le_refl _), List.drop_eq_nil_of_le (by omega)]
theorem cut_take {α : Type} (l : List α) (k : Int) (h : 0 ≤ k) : cutG l none (some k) = l.take k.toNat := by
  unfold cutG
  have e : HT.sIx l.length l.length (some k) = min k.toNat l.length := by
    unfold HT.sIx; dsimp only; rw [if_neg (by omega)]
  rw [e, sIx_none, List.drop_zero, Nat.sub_zero]
  by_cases h2 : k.toNat ≤ l.length
  · rw [Nat.min_eq_left h2]
  · rw [Nat.min_eq_right (by omega), List.take_of_length_le (Nat.le_refl _), List.take_of_length_le (by omega)]
theorem cut_both {α : Type} (l : List α) (j k : Int) (h : 0 ≤ j) (hk : j ≤ k) : cutG l (some j) (some k) = (l.drop j.toNat).take (k.toNat - j.toNat) := by
  unfold cutG
  have e : HT.sIx l.length l.length (some k) = min k.toNat l.length := by
    unfold HT.sIx; dsimp only; rw [if_neg (by omega)]
  have e2 : HT.sIx l.length 0 (some j) = min j.toNat l.length := by
    unfold HT.sIx; dsimp only; rw [if_neg (by omega)]
  rw [e, e2]
  by_cases h2 : j.toNat ≤ l.length
  · rw [Nat.min_eq_left h2]
    by_cases h3 : k.toNat ≤ l.length
    · rw [Nat.min_eq_left h3]
    · rw [Nat.min_eq_right (by omega), List.take_of_length_le (by rw [List.length_drop]; omega), List.take_of_length_le (by rw [List.length_drop]; omega)]
  · rw [Nat.min_eq_right (by omega : l.length ≤ j.toNat), List.drop_eq_nil_of_le (Nat.le_refl _), List.drop_eq_nil_of_le (by omega), List.take_nil, List.take_nil]
@[simp] theorem eSl_eq {g : PV → Option Int → Option Int → R PV} {f : Rho → R PV} {lo hi : Rho → R (Option Int)} {ρ : Rho} : eSl g f lo hi ρ = (f ρ).bind fun p => (lo ρ).bind fun l => (hi ρ).bind fun h => g p l h := nr rfl
@[simp] theorem oNone_eq {ρ : Rho} : oNone ρ = .ok none := nr rfl
@[simp] theorem oSome_eq {f : Rho → R PV} {ρ : Rho} : oSome f ρ = (f ρ).bind fun p => (asI p).bind fun i => .ok (some i) := nr rfl
@[simp] theorem slP_l {l : List PV} {lo hi : Option Int} : slP (.lst l) lo hi = .ok (.lst (cutG l lo hi)) := nr rfl
@[simp] theorem slP_f {l : List PV} {lo hi : Option Int} : slP (.frz l) lo hi = .ok (.lst (cutG l lo hi)) := nr rfl
@[simp] theorem slP_t {l : List PV} {lo hi : Option Int} : slP (.tup l) lo hi = .ok (.tup (cutG l lo hi)) := nr rfl
@[simp] theorem slL_l {l : List PV} {lo hi : Option Int} : slL (.lst l) lo hi = .ok (.lst (cutG l lo hi)) := nr rfl
@[simp] theorem tupleP_l {l : List PV} : tupleP [.lst l] = .ok (.tup l) := nr rfl
@[simp] theorem tupleP_t {l : List PV} : tupleP [.tup l] = .ok (.tup l) := nr rfl
@[simp] theorem tupleP_f {l : List PV} : tupleP [.frz l] = .ok (.tup l) := nr rfl
@[simp] theorem listP_l {l : List PV} : listP [.lst l] = .ok (.lst l) := nr rfl
@[simp] theorem listP_t {l : List PV} : listP [.tup l] = .ok (.lst l) := nr rfl
theorem addP_ok {a b : List PV} (h : a.length + b.length ≤ 1000000) : addP (.lst a) (.lst b) = .ok (.lst (a ++ b)) := by
  unfold addP; dsimp only; rw [if_pos (size_ok h)]
def figOk (p : Int) : PV → Bool
  | .int n => decide (0 ≤ n) && decide (n < p)
  | _ => false
theorem figs_map (p : Int) (l : List PV) (x s : PV) : lcGo (gN 2) cYes (eAn (eD F_is_whole (aCons (eV 2) aNil)) (eChain leP ltP (eC (.int 0)) (eVo 2) (eVo 0))) [.val (.int p), .val x, .un] l = .ok ((l.map (figOk p)).map PV.bl) := by
  rw [List.map_map]
  refine lcGo_map (fun q => PV.bl (figOk p q)) l fun q hq => ⟨_, rfl, ?_⟩
  cases q with
  | int n =>
    by_cases h : 0 ≤ n <;> simp [f_is_whole, figOk, h]
  | _ => simp [f_is_whole, figOk, isW]
theorem all_map (p : Int) (l : List PV) : (l.map (figOk p)).all id = l.all (figOk p) := by rw [List.all_map]; rfl
theorem f_are_l (p : Int) (l : List PV) (h : l.length ≤ 1000000) : F_are_figures [.int p, .lst l] = .ok (.bl (l.all (figOk p))) := by
  show (D_are_figures [.val (.int p), .val (.lst l), .un]).res = _
  have e := eLc_ok (vs := [2]) (it := iS (eV 1)) (ρ := [.val (.int p), .val (.lst l), .un]) rfl (by simp) h (figs_map p l (.lst l) .non)
  simp only [D_are_figures, bSeq_eq, sIf_eq, tNt_eq, tB1_eq, e1_eq, eVos, eVo0, bind1, isi_lt, isL, Bool.true_or, asB_eq, Bool.not_true, stB_ok, bNil_eq, if_neg Bool.false_ne_true, then_next, sRet_eq, eD_eq, aCons_eq, aNil_eq, e, allP_bl, all_map, st_ok, then_ret, res_ret]
theorem f_are_t (p : Int) (l : List PV) (h : l.length ≤ 1000000) : F_are_figures [.int p, .tup l] = .ok (.bl (l.all (figOk p))) := by
  show (D_are_figures [.val (.int p), .val (.tup l), .un]).res = _
  have e := eLc_ok (vs := [2]) (it := iS (eV 1)) (ρ := [.val (.int p), .val (.tup l), .un]) rfl (by simp) h (figs_map p l (.tup l) .non)
  simp only [D_are_figures, bSeq_eq, sIf_eq, tNt_eq, tB1_eq, e1_eq, eVos, eVo0, bind1, isi_lt, isL, isT, Bool.or_true, asB_eq, Bool.not_true, stB_ok, bNil_eq, if_neg Bool.false_ne_true, then_next, sRet_eq, eD_eq, aCons_eq, aNil_eq, e, allP_bl, all_map, st_ok, then_ret, res_ret]
theorem figs_all (p : Int) (ds : List Int) (h : ∀ d ∈ ds, 0 ≤ d ∧ d < p) : (ds.map PV.int).all (figOk p) = true := by
  rw [List.all_map, List.all_eq_true]
  intro d hd
  simp [figOk, h d hd]
def leftV (p e : Int) (ds : List Int) : PV := .tup [.int p, .int e, .tup (ds.map PV.int)]
def lead (ds : List Int) : Nat := (ds.takeWhile (· == 0)).length
def strip (ds : List Int) : List Int := ds.dropWhile (· == 0)
theorem strip_drop (ds : List Int) : ds.drop (lead ds) = strip ds := by
  unfold lead strip
  induction ds with
  | nil => rfl
  | cons d ds ih =>
    by_cases h : d = 0
    · subst h; simp [ih]
    · have : (d == 0) = false := by simpa using h
      simp [this]
theorem lead_le (ds : List Int) : lead ds ≤ ds.length := by
  unfold lead
  induction ds with
  | nil => simp
  | cons d ds ih => by_cases h : d = 0 <;> simp_all
theorem lead_zero (ds : List Int) : ∀ k, k < lead ds → ds.getD k 0 = 0 := by
  unfold lead
  induction ds with
  | nil => intro k h; simp at h
  | cons d ds ih =>
    intro k h
    by_cases hd : d = 0
    · subst hd
      cases k with
      | zero => rfl
      | succ k =>
        have := ih k (by simpa using h)
        simpa using this
    · have : (d == 0) = false := by simpa using hd
      simp [this] at h
theorem lead_ne (ds : List Int) (h : lead ds < ds.length) : ds.getD (lead ds) 0 ≠ 0 := by
  unfold lead at *
  induction ds with
  | nil => simp at h
  | cons d ds ih =>
    by_cases hd : d = 0
    · subst hd
      have := ih (by simpa using h)
      simpa using this
    · have h2 : (d == 0) = false := by simpa using hd
      simpa [h2] using hd
/-- the items of a written list or tuple of numbers -/
def SeqI (x : PV) (ds : List Int) : Prop := x = .lst (ds.map PV.int) ∨ x = .tup (ds.map PV.int)
theorem SeqI.ix {x : PV} {ds : List Int} (h : SeqI x ds) (k : Nat) (hk : k < ds.length) : ixP x (.int k) = .ok (.int (ds.getD k 0)) := by
  rcases h with rfl | rfl
  · exact ixP_lst (by omega) (getD_map ds _ (by omega))
  · exact ixP_tup (by omega) (getD_map ds _ (by omega))
theorem SeqI.len {x : PV} {ds : List Int} (h : SeqI x ds) : lenP [x] = .ok (.int ds.length) := by
  rcases h with rfl | rfl <;> simp
theorem SeqI.are {x : PV} {ds : List Int} (h : SeqI x ds) (p : Int) (hz : ds.length ≤ 1000000) (hd : ∀ d ∈ ds, 0 ≤ d ∧ d < p) : F_are_figures [.int p, x] = .ok (.bl true) := by
  rcases h with rfl | rfl
  · rw [f_are_l p _ (by simpa using hz), figs_all p ds hd]
  · rw [f_are_t p _ (by simpa using hz), figs_all p ds hd]
theorem SeqI.tail {x : PV} {ds : List Int} (h : SeqI x ds) (k : Nat) : ((slP x (some k) none).bind fun y => tupleP [y]) = .ok (.tup ((ds.drop k).map PV.int)) := by
  rcases h with rfl | rfl <;> simp [cut_drop]
theorem lead_run (p e : Int) (x : PV) (ds : List Int) (h : SeqI x ds) : ∀ (j k : Nat), k + j = lead ds →
    sWh (tAn (tB1 (e2 ltP (eVo 3) (eD lenP (aCons (eVo 2) aNil)))) (tB1 (e2 eqP (e2 ixP (eVo 2) (eVo 3)) (eC (.int 0))))) (bSeq (sAug 3 (intP (fun _ _ => true) fun a b => .int (a + b)) (eC (.int 1))) bNil) [.val (.int p), .val (.int e), .val x, .val (.int k)] = .next [.val (.int p), .val (.int e), .val x, .val (.int (lead ds))] := by
  intro j
  have hl := lead_le ds
  induction j with
  | zero =>
    intro k hk
    have hk' : k = lead ds := by omega
    subst hk'
    rw [sWh_eq]
    by_cases h2 : lead ds < ds.length
    · have e1 := h.ix _ h2
      have e2 : (ds.getD (lead ds) 0 == 0) = false := by simpa using lead_ne ds h2
      simp [h.len, h2, e1, -List.getD_eq_getElem?_getD, e2]
    · simp [h.len, h2]
  | succ j ih =>
    intro k hk
    rw [sWh_eq]
    have h2 : k < ds.length := by omega
    have e1 := h.ix _ h2
    rw [lead_zero ds k (by omega)] at e1
    have ih' := ih (k + 1) (by omega)
    simp [h.len, h2, e1]
    exact ih'
theorem f_left (p e : Int) (x : PV) (ds : List Int) (hp : p ∈ primesL) (h : SeqI x ds) (hz : ds.length ≤ 1000000) (hd : ∀ d ∈ ds, 0 ≤ d ∧ d < p) : F_left_number [.int p, .int e, x] = .ok (leftV p (e + lead ds) (strip ds)) := by
  show (D_left_number [.val (.int p), .val (.int e), .val x, .un]).res = _
  have hp' : isP (.int p) = true := by simp [isP, hp]
  have r := lead_run p e x ds h (lead ds) 0 (by omega)
  rw [show ((0 : Nat) : Int) = 0 from rfl] at r
  have t := h.tail (lead ds)
  rw [strip_drop] at t
  rcases h with rfl | rfl
  · simp only [slP_l, bind1] at t
    simp [D_left_number, f_is_prime, hp', f_is_whole, SeqI.are (.inl rfl) p hz hd, r, leftV, t]
  · simp only [slP_t, bind1] at t
    simp [D_left_number, f_is_prime, hp', f_is_whole, SeqI.are (.inr rfl) p hz hd, r, leftV, t]
theorem f_left_noP (a b c : PV) (h : isP a = false) : F_left_number [a, b, c] = .exc "NoPrime" := by
  show (D_left_number [.val a, .val b, .val c, .un]).res = _
  simp [D_left_number, f_is_prime, h]
theorem f_left_noF (a b c : PV) (h : isP a = true) (h2 : isW b = true) (h3 : F_are_figures [a, c] = .ok (.bl false)) : F_left_number [a, b, c] = .exc "NoFigures" := by
  show (D_left_number [.val a, .val b, .val c, .un]).res = _
  simp [D_left_number, f_is_prime, f_is_whole, h, h2, h3]
@[simp] theorem eqP_tt0 : eqP (.tup []) (.tup []) = .ok (.bl true) := by rw [eqP_ok (by simp) (by simp)]; simp
end PM
set_option Elab.async false
set_option linter.all false
set_option maxRecDepth 100000
set_option autoImplicit false
namespace PM
open PySem PySem.Spec L2 PL
open PyProof.Rows hiding St
@[simp] theorem sPar_eq {i j : Nat} {f g : Rho → R PV} {ρ : Rho} : sPar i j (aCons f (aCons g aNil)) ρ = (f ρ).st ρ fun p => (g ρ).st ρ fun q => .next ((ρ.set i (.val p)).set j (.val q)) := by
  unfold sPar aCons R.st
  cases f ρ with
  | exc c => rfl
  | stuck => rfl
  | ok p => cases g ρ <;> rfl
@[simp] theorem absP_i {a : Int} : absP [.int a] = .ok (.int a.natAbs) := by
  have e : absP [.int a] = .ok (.int (if a < 0 then -a else a)) := rfl
  rw [e]
  congr 2
  split <;> omega
/-- the sign and the share -/
def fs (t b : Int) : Int := if b < 0 then -(Int.gcd t b : Int) else (Int.gcd t b : Int)
theorem val_ex (p : Int) (hp : 2 ≤ p) : ∀ (k : Nat) (n : Int), n.natAbs ≤ k → n ≠ 0 → ∃ (m : Int) (v : Nat), n = m * p ^ v ∧ m % p ≠ 0 := by
  intro k
  induction k with
  | zero => intro n h h0; omega
  | succ k ih =>
    intro n h h0
    by_cases hd : n % p = 0
    · have e : n / p * p = n := Int.ediv_mul_cancel (Int.dvd_of_emod_eq_zero hd)
      have hn : n / p ≠ 0 := fun z => by rw [z, Int.zero_mul] at e; exact h0 e.symm
      have hlt : (n / p).natAbs < n.natAbs := by
        have : n.natAbs = (n / p).natAbs * p.natAbs := by rw [← Int.natAbs_mul, e]
        have h1 : 0 < (n / p).natAbs := by omega
        have h2 : 2 ≤ p.natAbs := by omega
        have := Nat.mul_le_mul_left (n / p).natAbs h2
        omega
      obtain ⟨m, v, e2, hm⟩ := ih (n / p) (by omega) hn
      refine ⟨m, v + 1, ?_, hm⟩
      rw [Int.pow_succ, ← Int.mul_assoc, ← e2, e]
    · exact ⟨n, 0, by simp, hd⟩
/-- how often p divides n -/
noncomputable def vp (p n : Int) : Int := if h : 2 ≤ p ∧ n ≠ 0 then ((val_ex p h.1 n.natAbs n (Nat.le_refl _) h.2).choose_spec.choose : Nat) else 0
theorem vp_spec {p n : Int} (hp : 2 ≤ p) (hn : n ≠ 0) : ∃ (m : Int) (v : Nat), n = m * p ^ v ∧ m % p ≠ 0 ∧ vp p n = v := by
  have h : 2 ≤ p ∧ n ≠ 0 := ⟨hp, hn⟩
  have s := (val_ex p h.1 n.natAbs n (Nat.le_refl _) h.2).choose_spec.choose_spec
  exact ⟨_, _, s.1, s.2, by unfold vp; rw [dif_pos h]⟩
theorem vp_uniq {p m n : Int} {u v : Nat} (hp : 2 ≤ p) (e : m * p ^ u = n * p ^ v) (hm : m % p ≠ 0) (hn : n % p ≠ 0) : u = v := by
  have key : ∀ {m n : Int} {u v : Nat}, m * p ^ u = n * p ^ v → m % p ≠ 0 → n % p ≠ 0 → u ≤ v := fun {m n u v} e hm hn => by
    refine Nat.le_of_not_lt fun h => hn ?_
    obtain ⟨k, rfl⟩ : ∃ k, u = v + (k + 1) := ⟨u - v - 1, by omega⟩
    rw [Int.pow_add, Int.mul_comm (p ^ v), ← Int.mul_assoc] at e
    have hpv : p ^ v ≠ 0 := Int.pow_ne_zero (by omega)
    have e2 := Int.eq_of_mul_eq_mul_right hpv e
    rw [← e2, Int.pow_succ, ← Int.mul_assoc]
    exact Int.mul_emod_left _ _
  exact Nat.le_antisymm (key e hm hn) (key e.symm hn hm)
end PM
namespace PM
end PM
namespace PM
open PySem PySem.Spec L2 PL
open PyProof.Rows hiding St
theorem stp {i : Nat} {f : Rho → R PV} {k : Rho → Out} {ρ : Rho} (p : PV) {r : R PV} (h : f ρ = .ok p) (g : (k (ρ.set i (.val p))).res = r) : (bSeq (sSet i f) k ρ).res = r := by
  rw [bSeq_eq, sSet_eq, h, st_ok, then_next]; exact g
theorem skp {t : Rho → R Bool} {u k : Rho → Out} {ρ : Rho} {r : R PV} (h : t ρ = .ok false) (g : (k ρ).res = r) : (bSeq (sIf t u bNil) k ρ).res = r := by
  rw [bSeq_eq, sIf_eq, h, stB_ok, if_neg Bool.false_ne_true, bNil_eq, then_next]; exact g
theorem ifT {t : Rho → R Bool} {u v k : Rho → Out} {ρ : Rho} {r : R PV} (h : t ρ = .ok true) (g : (bSeq u k ρ).res = r) : (bSeq (sIf t u v) k ρ).res = r := by
  rw [bSeq_eq, sIf_eq, h, stB_ok, if_pos rfl]; exact g
end PM
namespace PM
open PySem PySem.Spec L2 PL
open PyProof.Rows hiding St
theorem sTry_exc {i : Nat} {cs : List Str} {body : Rho → Out} {su : Str → Addr → Rho → Out} {ρ ρ' : Rho} {c : Str} {o : Out} (h : body ρ = .exc c ρ') (hc : c ∈ cs) (h2 : ∀ a, behindX i (su c a (ρ'.set i (.ex a))) = o) : sTry i cs body su ρ = o := by
  unfold sTry
  rw [h]
  dsimp only
  rw [if_pos hc]
  exact tryX_of h2
@[simp] theorem isX0 {a : Addr} {b : Bool} {ρ : Rho} : isX 0 a b (.ex a :: ρ) = .ok (.bl b) := by
  have e : isX 0 a b (.ex a :: ρ) = (if a = a then .ok (.bl b) else .stuck) := rfl
  rw [e, if_pos rfl]
@[simp] theorem isXs {i : Nat} {a : Addr} {b : Bool} {s : Slot} {ρ : Rho} : isX (i + 1) a b (s :: ρ) = isX i a b ρ := by simp [isX]
theorem hotC0 {a : Addr} {F : Addr → R PV} {ρ : Rho} {p : PV} (h : F a = .ok p) : hotC 0 a F (.ex a :: ρ) = .ok p := by
  have e : hotC 0 a F (.ex a :: ρ) = (if a = a then (match F a with | .ok p => .ok p | _ => .stuck) else .stuck) := rfl
  rw [e, if_pos rfl, h]
@[simp] theorem hotCs {i : Nat} {a : Addr} {F : Addr → R PV} {s : Slot} {ρ : Rho} : hotC (i + 1) a F (s :: ρ) = hotC i a F ρ := by simp [hotC]
@[simp] theorem behind_next {i : Nat} {ρ : Rho} : behindX i (.next ρ) = .next (ρ.set i .un) := nr rfl
@[simp] theorem behind_ret {i : Nat} {p : PV} : behindX i (.ret p) = .ret p := nr rfl
theorem anyP_bl (bs : List Bool) : anyP [.lst (bs.map PV.bl)] = .ok (.bl (bs.any id)) := by
  unfold anyP
  dsimp only
  rw [asBs_of]
theorem runX_eq {n : Nat} {g : Rho → Out} {a : Addr} : runX n g a = (g (.ex a :: List.replicate (n - 1) Slot.un)).res := rfl
end PM
set_option Elab.async false
set_option linter.all false
set_option maxRecDepth 100000
set_option autoImplicit false
set_option exponentiation.threshold 20000
namespace PM
open PySem PySem.Spec L2 PL
open PyProof.Rows hiding St
def Dg (p : Int) (ds : List Int) : Prop := ∀ d ∈ ds, 0 ≤ d ∧ d < p
def U (p : Int) : List Int → Int
  | [] => 0
  | d :: r => U p r * p + d
theorem Dg.tail {p d : Int} {r : List Int} (h : Dg p (d :: r)) : Dg p r := fun x hx => h x (List.mem_cons_of_mem _ hx)
theorem head_lead {ds : List Int} (h : ds.head? ≠ some 0) : lead ds = 0 ∧ strip ds = ds := by
  cases ds with
  | nil => exact ⟨rfl, rfl⟩
  | cons d r =>
    have hd : (d == 0) = false := by simpa using h
    constructor
    · unfold lead; simp [hd]
    · unfold strip; simp [hd]
/-- a left number in its form -/
structure Lf (p : Int) (ds : List Int) (n : Nat) : Prop where
  pr : p ∈ primesL
  dg : Dg p ds
  hd : ds.head? ≠ some 0
  len : ds.length ≤ n
theorem Lf.b {p : Int} {ds : List Int} {n : Nat} (h : Lf p ds n) : 2 ≤ p ∧ p ≤ 97 := primesL_le p h.pr
end PM
namespace PM
open PL
end PM
namespace PM
open PySem PySem.Spec L2 PL
open PyProof.Rows hiding St
end PM
namespace PM
open PySem PySem.Spec L2 PL
open PyProof.Rows hiding St
end PM
set_option Elab.async false
set_option linter.all false
set_option maxRecDepth 100000
set_option autoImplicit false
set_option exponentiation.threshold 20000
namespace PM
open PySem PySem.Spec L2 PL
open PyProof.Rows hiding St
/-- alike but for multiples -/
def Mo (m x y : Int) : Prop := ∃ z, x = y + m * z
theorem Mo.refl (m x : Int) : Mo m x x := ⟨0, by simp⟩
theorem Mo.of_eq {m x y : Int} (h : x = y) : Mo m x y := h ▸ Mo.refl m x
theorem Mo.symm {m x y : Int} (h : Mo m x y) : Mo m y x := by obtain ⟨z, h⟩ := h; exact ⟨-z, by grind⟩
theorem Mo.trans {m x y w : Int} (h : Mo m x y) (g : Mo m y w) : Mo m x w := by
  obtain ⟨z, h⟩ := h; obtain ⟨u, g⟩ := g; exact ⟨z + u, by grind⟩
theorem Mo.add {m x y u v : Int} (h : Mo m x y) (g : Mo m u v) : Mo m (x + u) (y + v) := by
  obtain ⟨z, h⟩ := h; obtain ⟨w, g⟩ := g; exact ⟨z + w, by grind⟩
theorem Mo.sub {m x y u v : Int} (h : Mo m x y) (g : Mo m u v) : Mo m (x - u) (y - v) := by
  obtain ⟨z, h⟩ := h; obtain ⟨w, g⟩ := g; exact ⟨z - w, by grind⟩
theorem Mo.mul {m x y u v : Int} (h : Mo m x y) (g : Mo m u v) : Mo m (x * u) (y * v) := by
  obtain ⟨z, h⟩ := h; obtain ⟨w, g⟩ := g; exact ⟨y * w + z * v + m * z * w, by subst h g; grind⟩
theorem Mo.dvd {m k x y : Int} (h : Mo (m * k) x y) : Mo m x y := by
  obtain ⟨z, h⟩ := h; exact ⟨k * z, by rw [h, Int.mul_assoc]⟩
theorem Mo.scale {m x y : Int} (k : Int) (h : Mo m x y) : Mo (m * k) (x * k) (y * k) := by
  obtain ⟨z, h⟩ := h; exact ⟨z, by subst h; grind⟩
theorem Mo.eq {m x y : Int} (h : Mo m x y) : x % m = y % m := by
  obtain ⟨z, h⟩ := h; rw [h, Int.add_mul_emod_self_left]
theorem pow_split (p : Int) {a b : Nat} (h : a ≤ b) : p ^ b = p ^ a * p ^ (b - a) := by rw [← Int.pow_add]; congr 1; omega
theorem Mo.low {p x y : Int} {a b : Nat} (h : Mo (p ^ b) x y) (hab : a ≤ b) : Mo (p ^ a) x y := by
  rw [pow_split p hab] at h; exact h.dvd
/-- the figures' sum over a base -/
def V (p b e : Int) (ds : List Int) : Int := U p ds * p ^ (e - b).toNat
theorem V_self (p e : Int) (ds : List Int) : V p e e ds = U p ds := by unfold V; rw [Int.sub_self]; simp
theorem V_shift (p : Int) {b c e : Int} (ds : List Int) (h : b ≤ c) (h2 : c ≤ e) : V p b e ds = V p c e ds * p ^ (c - b).toNat := by
  unfold V; rw [Int.mul_assoc, ← Int.pow_add]; congr 2; omega
/-- one goes on where the other ends -/
structure Ext (p e' : Int) (ds' : List Int) (e : Int) (ds : List Int) : Prop where
  le : e ≤ e'
  en : e + ds.length ≤ e' + ds'.length
  mo : Mo (p ^ ds.length) (V p e e' ds') (U p ds)
theorem Ext.refl (p e : Int) (ds : List Int) : Ext p e ds e ds := ⟨Int.le_refl _, Int.le_refl _, by rw [V_self]; exact Mo.refl _ _⟩
theorem Ext.base {p e' e : Int} {ds' ds : List Int} (h : Ext p e' ds' e ds) {b : Int} (hb : b ≤ e) : Mo (p ^ (e + ds.length - b).toNat) (V p b e' ds') (V p b e ds) := by
  rw [V_shift p ds' hb h.le, V_shift p ds hb (Int.le_refl e), V_self, show (e + ds.length - b).toNat = ds.length + (e - b).toNat by omega, Int.pow_add]
  exact h.mo.scale _
end PM
namespace PM
open PySem PySem.Spec L2 PL
open PyProof.Rows hiding St
theorem prime_mul : ∀ p ∈ primesN, ∀ a : Nat, a < p → ∀ b : Nat, b < p → a ≠ 0 → b ≠ 0 → a * b % p ≠ 0 := by decide +kernel
theorem prime_mulI {p a b : Int} (hp : p ∈ primesL) (ha : a % p ≠ 0) (hb : b % p ≠ 0) : a * b % p ≠ 0 := by
  have hpb := primesL_le p hp
  rw [Int.mul_emod]
  have a1 := Int.emod_nonneg a (show p ≠ 0 by omega)
  have a2 := Int.emod_lt_of_pos a (show 0 < p by omega)
  have b1 := Int.emod_nonneg b (show p ≠ 0 by omega)
  have b2 := Int.emod_lt_of_pos b (show 0 < p by omega)
  have e2 : primesL = primesN.map fun (n : Nat) => (n : Int) := rfl
  rw [e2] at hp
  obtain ⟨n, hn, rfl⟩ := List.mem_map.mp hp
  obtain ⟨x, hx⟩ : ∃ x : Nat, a % (n : Int) = x := ⟨(a % (n : Int)).toNat, by omega⟩
  obtain ⟨y, hy⟩ : ∃ y : Nat, b % (n : Int) = y := ⟨(b % (n : Int)).toNat, by omega⟩
  rw [hx, hy]
  rw [hx] at ha a2
  rw [hy] at hb b2
  have := prime_mul n hn x (by omega) y (by omega) (by omega) (by omega)
  rw [← Int.natCast_mul, ← Int.natCast_emod]
  omega
end PM
namespace PM
open PySem PySem.Spec L2 PL
open PyProof.Rows hiding St
theorem Lf.le {p : Int} {ds : List Int} {n m : Nat} (h : Lf p ds n) (hm : n ≤ m) : Lf p ds m := ⟨h.pr, h.dg, h.hd, Nat.le_trans h.len hm⟩
end PM
set_option Elab.async false
set_option linter.all false
set_option maxRecDepth 100000
set_option autoImplicit false
set_option exponentiation.threshold 20000
namespace PM
open PySem PySem.Spec L2 PL
open PyProof.Rows hiding St
theorem prime_cop : ∀ p ∈ primesN, ∀ a : Nat, a < p → a ≠ 0 → Nat.gcd a p = 1 := by decide +kernel
theorem gcd_mod (a w : Int) : Int.gcd (a % w) w = Int.gcd a w := by
  have e : a = a % w + w * (a / w) := by have := Int.mul_ediv_add_emod a w; omega
  conv => rhs; rw [e]
  rw [Int.gcd_add_mul_left_left]
theorem prime_gcd {p a : Int} (hp : p ∈ primesL) (ha : a % p ≠ 0) (k : Nat) : Int.gcd a (p ^ k) = 1 := by
  have hpb := primesL_le p hp
  have e2 : primesL = primesN.map fun (n : Nat) => (n : Int) := rfl
  rw [e2] at hp
  obtain ⟨n, hn, rfl⟩ := List.mem_map.mp hp
  obtain ⟨x, hx⟩ : ∃ x : Nat, a % (n : Int) = x := ⟨(a % (n : Int)).toNat, by have := Int.emod_nonneg a (show (n : Int) ≠ 0 by omega); omega⟩
  have hlt := Int.emod_lt_of_pos a (show 0 < (n : Int) by omega)
  rw [hx] at ha hlt
  have g := prime_cop n hn x (by omega) (by omega)
  have e : Int.gcd a (n : Int) = 1 := by
    have h1 : Int.gcd (a % (n : Int)) (n : Int) = Int.gcd a (n : Int) := gcd_mod _ _
    rw [← h1, hx]; exact g
  have e3 : Nat.Coprime a.natAbs (n ^ k) := Nat.Coprime.pow_right k e
  show Nat.gcd a.natAbs ((n : Int) ^ k).natAbs = 1
  rw [Int.natAbs_pow]; exact e3
theorem le_of_mul_le {a x w : Int} (hx : 0 < x) (ha : 0 ≤ a) (h : a * x ≤ w) : a ≤ w := by
  have := Int.mul_le_mul_of_nonneg_left (show 1 ≤ x by omega) ha
  omega
end PM
namespace PM
open PySem PySem.Spec L2 PL
open PyProof.Rows hiding St
/-- a slot set again under a condition -/
theorem stpW {i : Nat} {t : Rho → R Bool} {f : Rho → R PV} {k : Rho → Out} {ρ : Rho} {r : R PV} (b : Bool) (v old w : PV) (ht : t ρ = .ok b) (hf : b = true → f ρ = .ok v) (ho : ρ.set i (.val old) = ρ) (hw : w = if b = true then v else old) (g : (k (ρ.set i (.val w))).res = r) : (bSeq (sIf t (bSeq (sSet i f) bNil) bNil) k ρ).res = r := by
  rw [bSeq_eq, sIf_eq, ht, stB_ok]
  cases b with
  | true =>
    rw [if_pos rfl] at hw
    subst hw
    rw [if_pos rfl, bSeq_eq, sSet_eq, hf rfl, st_ok, then_next, bNil_eq, then_next]; exact g
  | false =>
    rw [if_neg Bool.false_ne_true] at hw
    subst hw
    rw [ho] at g
    rw [if_neg Bool.false_ne_true, bNil_eq, then_next]; exact g
theorem eqLeft (p e : Int) (ds : List Int) : eqP (leftV p e ds) (leftV p e ds) = .ok (.bl true) := by
  rw [eqP_ok (by simp [leftV]) (by simp [leftV])]
  simp [leftV, eqVs_ints]
end PM
namespace PM
open PySem PySem.Spec L2 PL
open PyProof.Rows hiding St
end PM
set_option Elab.async false
set_option linter.all false
set_option maxRecDepth 100000
set_option autoImplicit false
set_option exponentiation.threshold 20000
namespace PM
open PySem PySem.Spec L2 PL
open PyProof.Rows hiding St
/-- two neighbours of the row of rests -/
structure Nb (W u z r s v w : Int) : Prop where
  cr : Mo W r (u * s)
  cv : Mo W v (u * w)
  sg : (0 < w ∧ s ≤ 0 ∧ r * w - v * s = W) ∨ (w < 0 ∧ 0 ≤ s ∧ r * w - v * s = -W)
  rz : z < r
  v0 : 0 ≤ v
  vr : v < r
  rW : r ≤ W
  sW : -W ≤ s ∧ s ≤ W
theorem Nb.wW {W u z r s v w : Int} (h : Nb W u z r s v w) (hz : 1 ≤ z) : -W ≤ w ∧ w ≤ W := by
  have hr := h.rz
  have v0 := h.v0
  have hW := h.rW
  rcases h.sg with ⟨h1, h2, h3⟩ | ⟨h1, h2, h3⟩
  · have : v * s ≤ 0 := Int.mul_nonpos_of_nonneg_of_nonpos v0 h2
    have := le_of_mul_le (a := w) (x := r) (w := W) (by omega) (by omega) (by rw [Int.mul_comm]; omega)
    omega
  · have e : 0 ≤ v * s := Int.mul_nonneg v0 h2
    have := le_of_mul_le (a := -w) (x := r) (w := W) (by omega) (by omega) (by rw [Int.neg_mul, Int.mul_comm]; omega)
    omega
theorem Nb.step {W u z r s v w : Int} (h : Nb W u z r s v w) (hz : 1 ≤ z) (hv : z < v) : Nb W u z v w (r % v) (s - r / v * w) := by
  have v0 := h.v0
  have vr := h.vr
  have rW := h.rW
  have ww := h.wW hz
  have q1 : 1 ≤ r / v := (Int.le_ediv_iff_mul_le (by omega)).mpr (by omega)
  have er : r / v * v + r % v = r := by have := Int.mul_ediv_add_emod r v; rw [Int.mul_comm] at this; exact this
  have m0 := Int.emod_nonneg r (show v ≠ 0 by omega)
  have m1 := Int.emod_lt_of_pos r (show 0 < v by omega)
  generalize r / v = q at *
  generalize r % v = m at *
  have det : v * (s - q * w) - m * w = -(r * w - v * s) := by rw [← er]; grind
  refine ⟨h.cv, ?_, ?_, hv, m0, m1, by omega, ww⟩
  · have t := h.cr.sub ((Mo.refl W q).mul h.cv)
    have e : r - q * v = m := by omega
    rw [e] at t
    exact t.trans (.of_eq (by grind))
  · rcases h.sg with ⟨h1, h2, h3⟩ | ⟨h1, h2, h3⟩
    · have : 1 * w ≤ q * w := Int.mul_le_mul_of_nonneg_right q1 (by omega)
      exact .inr ⟨by omega, by omega, by rw [det]; omega⟩
    · have : q * w ≤ 1 * w := Int.mul_le_mul_of_nonpos_right q1 (by omega)
      exact .inl ⟨by omega, by omega, by rw [det]; omega⟩
end PM
set_option Elab.async false
set_option linter.all false
set_option maxRecDepth 100000
set_option autoImplicit false
set_option exponentiation.threshold 20000
namespace PM
open PySem PySem.Spec L2 PL
open PyProof.Rows hiding St
theorem dvd_cop {y x b : Int} (h : y ∣ x * b) (g : Int.gcd y x = 1) : y ∣ b := by
  have h1 : y.natAbs ∣ x.natAbs * b.natAbs := by rw [← Int.natAbs_mul]; exact Int.natAbs_dvd_natAbs.mpr h
  exact Int.natAbs_dvd_natAbs.mp (Nat.Coprime.dvd_of_dvd_mul_left (k := y.natAbs) g h1)
end PM
namespace PM
open PySem PySem.Spec L2 PL
open PyProof.Rows hiding St
end PM
set_option Elab.async false
set_option linter.all false
set_option maxRecDepth 100000
set_option autoImplicit false
set_option exponentiation.threshold 20000
namespace PM
open PySem PySem.Spec L2 PL
open PyProof.Rows hiding St
end PM
set_option Elab.async false
set_option linter.all false
set_option maxRecDepth 100000
set_option autoImplicit false
set_option exponentiation.threshold 20000
namespace PM
open PySem PySem.Spec L2 PL
open PyProof.Rows hiding St
end PM
set_option Elab.async false
set_option linter.all false
set_option maxRecDepth 100000
set_option autoImplicit false
set_option exponentiation.threshold 20000
namespace PM
/-- the sum in A ^ n - B ^ n = (A - B) .. -/
def Gm (A B : Int) : Nat → Int
  | 0 => 0
  | n + 1 => A ^ n + B * Gm A B n
theorem Gm_eq (A B : Int) : ∀ n : Nat, A ^ n = B ^ n + (A - B) * Gm A B n
  | 0 => by simp [Gm]
  | n + 1 => by
    have ih := Gm_eq A B n
    have e : Gm A B (n + 1) = A ^ n + B * Gm A B n := rfl
    rw [e, Int.pow_succ, Int.pow_succ]
    grind
theorem pow_two_up (B D : Int) : ∀ n : Nat, ∃ w, (B + D) ^ (n + 1) = B ^ (n + 1) + (n + 1) * D * B ^ n + D * D * w
  | 0 => ⟨0, by simp [Int.pow_succ]⟩
  | n + 1 => by
    obtain ⟨w, h⟩ := pow_two_up B D n
    refine ⟨(n + 1) * B ^ n + w * (B + D), ?_⟩
    rw [Int.pow_succ, h, Int.pow_succ B (n + 1), Int.pow_succ B n]
    have e : ((n + 1 : Nat) : Int) = (n : Int) + 1 := by omega
    rw [e]
    grind
/-- modulo its square, twice -/
theorem Gm_mod2 (B D : Int) : ∀ n : Nat, ∃ w, 2 * Gm (B + D) B (n + 2) = 2 * (n + 2) * B ^ (n + 1) + (n + 2) * (n + 1) * D * B ^ n + 2 * (D * D) * w
  | 0 => ⟨0, by simp [Gm]; grind⟩
  | n + 1 => by
    obtain ⟨w, h⟩ := Gm_mod2 B D n
    obtain ⟨v, g⟩ := pow_two_up B D (n + 1)
    refine ⟨v + B * w, ?_⟩
    have e : Gm (B + D) B (n + 1 + 2) = (B + D) ^ (n + 2) + B * Gm (B + D) B (n + 2) := rfl
    have e2 : ((n + 1 : Nat) : Int) = (n : Int) + 1 := by omega
    rw [e, Int.mul_add, g, e2]
    rw [e2] at g
    have h' : 2 * (B * Gm (B + D) B (n + 2)) = B * (2 * (n + 2) * B ^ (n + 1) + (n + 2) * (n + 1) * D * B ^ n + 2 * (D * D) * w) := by rw [← h]; grind
    rw [h', Int.pow_succ B (n + 1), Int.pow_succ B n]
    grind
theorem pow_ne {p B : Int} (hp : p ∈ primesL) (hB : B % p ≠ 0) : ∀ n : Nat, B ^ n % p ≠ 0
  | 0 => by
    have := primesL_le p hp
    rw [Int.pow_zero, Int.emod_eq_of_lt (by omega) (by omega)]; omega
  | n + 1 => by rw [Int.pow_succ]; exact prime_mulI hp (pow_ne hp hB n) hB
theorem ne_add {p a b : Int} (ha : a % p ≠ 0) : (a + p * b) % p ≠ 0 := by rw [Int.add_mul_emod_self_left]; exact ha
theorem step_p {p B z : Int} (hp : p ∈ primesL) (hB : B % p ≠ 0) (j : Nat) (hj : 1 ≤ j) (h2 : p = 2 → 2 ≤ j) : ∃ g, Gm (B + p ^ j * z) B p.toNat = p * g ∧ g % p ≠ 0 := by
  have hpb := primesL_le p hp
  by_cases h : p = 2
  · subst h
    obtain ⟨i, rfl⟩ : ∃ i, j = i + 2 := ⟨j - 2, by have := h2 rfl; omega⟩
    refine ⟨B + 2 * (2 ^ i * z), ?_, ne_add hB⟩
    have e : (2 : Int) ^ (i + 2) = 4 * 2 ^ i := by rw [Int.pow_succ, Int.pow_succ]; grind
    rw [e]
    show (B + 4 * 2 ^ i * z) ^ 1 + B * ((B + 4 * 2 ^ i * z) ^ 0 + B * 0) = _
    rw [Int.pow_zero, Int.pow_succ, Int.pow_zero]
    grind
  · obtain ⟨n, hn⟩ : ∃ n, p.toNat = n + 2 := ⟨p.toNat - 2, by omega⟩
    obtain ⟨i, rfl⟩ : ∃ i, j = i + 1 := ⟨j - 1, by omega⟩
    obtain ⟨d, hd⟩ : ∃ d, d = p ^ i * z := ⟨_, rfl⟩
    have eD : p ^ (i + 1) * z = p * d := by rw [hd, Int.pow_succ]; grind
    obtain ⟨w, hw⟩ := Gm_mod2 B (p * d) n
    have ep : (n : Int) + 2 = p := by omega
    rw [ep] at hw
    have e1 : 2 * Gm (B + p * d) B (n + 2) = p * (2 * B ^ (n + 1) + p * ((n + 1) * d * B ^ n + 2 * d * d * w)) := by rw [hw]; grind
    have c2 : (2 : Int) % p ≠ 0 := by rw [Int.emod_eq_of_lt (by omega) (by omega)]; omega
    have dv : p ∣ Gm (B + p * d) B (n + 2) := dvd_cop (x := 2) ⟨_, e1⟩ (by
      have := prime_gcd hp c2 1
      rw [Int.pow_one, Int.gcd_comm] at this
      exact this)
    obtain ⟨g, hg⟩ := dv
    refine ⟨g, by rw [eD, hn]; exact hg, fun k => ?_⟩
    have e2 : 2 * g = 2 * B ^ (n + 1) + p * ((n + 1) * d * B ^ n + 2 * d * d * w) := by
      have : p * (2 * g) = p * (2 * B ^ (n + 1) + p * ((n + 1) * d * B ^ n + 2 * d * d * w)) := by rw [← e1, hg]; grind
      exact Int.eq_of_mul_eq_mul_left (by omega) this
    have e3 := ne_add (p := p) (b := (n + 1) * d * B ^ n + 2 * d * d * w) (prime_mulI hp c2 (pow_ne hp hB (n + 1)))
    rw [← e2, Int.mul_emod, k, Int.mul_zero, Int.zero_emod] at e3
    exact e3 rfl
theorem lte_t {p B : Int} (hp : p ∈ primesL) (hB : B % p ≠ 0) (j : Nat) (y : Int) (hj : 1 ≤ j) (h2 : p = 2 → 2 ≤ j) : ∀ t : Nat, ∃ y', (B + p ^ j * y) ^ (p.toNat ^ t) = B ^ (p.toNat ^ t) + p ^ (j + t) * y' ∧ (y % p ≠ 0 → y' % p ≠ 0)
  | 0 => ⟨y, by simp [Int.pow_succ], fun h => h⟩
  | t + 1 => by
    obtain ⟨y', e, h⟩ := lte_t hp hB j y hj h2 t
    have hB1 := pow_ne hp hB (p.toNat ^ t)
    obtain ⟨g, g1, g2⟩ := step_p (z := y') hp hB1 (j + t) (by omega) (fun k => by have := h2 k; omega)
    have q := Gm_eq (B ^ (p.toNat ^ t) + p ^ (j + t) * y') (B ^ (p.toNat ^ t)) p.toNat
    refine ⟨y' * g, ?_, fun k => prime_mulI hp (h k) g2⟩
    rw [Nat.pow_succ, Int.pow_mul, Int.pow_mul, e, q, g1, show j + (t + 1) = j + t + 1 by omega, Int.pow_succ]
    grind
end PM
namespace PM
open PySem PySem.Spec L2 PL
open PyProof.Rows hiding St
theorem Mo.uniq {w x y : Int} (h : Mo w x y) (h0 : 0 ≤ x) (h1 : x < w) : x = y % w := by rw [← h.eq, Int.emod_eq_of_lt h0 h1]
end PM
set_option Elab.async false
set_option linter.all false
set_option maxRecDepth 100000
set_option autoImplicit false
set_option exponentiation.threshold 20000
namespace PM
open PySem PySem.Spec L2 PL
open PyProof.Rows hiding St
end PM
set_option Elab.async false
set_option linter.all false
set_option maxRecDepth 100000
set_option autoImplicit false
set_option exponentiation.threshold 20000
namespace PM
open PySem PySem.Spec L2 PL
open PyProof.Rows hiding St
end PM
set_option Elab.async false
set_option linter.all false
set_option maxRecDepth 100000
set_option autoImplicit false
set_option exponentiation.threshold 20000
namespace PM
open PySem PySem.Spec L2 PL
open PyProof.Rows hiding St
end PM
set_option Elab.async false
set_option linter.all false
set_option maxRecDepth 100000
set_option autoImplicit false
set_option exponentiation.threshold 20000
namespace PM
open PySem PySem.Spec L2 PL
open PyProof.Rows hiding St
def figI (e : Int) (ds : List Int) (q : Int) : Int := if q < e then 0 else ds.getD (q - e).toNat 0
/-- the least place below L at which both are unlike, if there is one -/
def PartedI (L e f : Int) (ds es : List Int) (r : PV) : Prop :=
  (r = .non ∧ ∀ q, q < L → figI e ds q = figI f es q) ∨
  (∃ q, q < L ∧ r = .int q ∧ figI e ds q ≠ figI f es q ∧ ∀ q', q' < q → figI e ds q' = figI f es q')
theorem PartedI.uniq {L e f : Int} {ds es : List Int} {r s : PV} (h : PartedI L e f ds es r) (g : PartedI L e f ds es s) : r = s := by
  rcases h with ⟨rfl, h⟩ | ⟨q, h1, rfl, h2, h3⟩ <;> rcases g with ⟨rfl, g⟩ | ⟨q', g1, rfl, g2, g3⟩
  · rfl
  · exact absurd (h _ g1) g2
  · exact absurd (g _ h1) h2
  · have a : ¬ q < q' := fun z => h2 (g3 _ z)
    have b : ¬ q' < q := fun z => g2 (h3 _ z)
    rw [show q = q' by omega]
end PM
set_option Elab.async false
set_option linter.all false
set_option maxRecDepth 100000
set_option autoImplicit false
set_option exponentiation.threshold 20000
namespace PM
open PySem PySem.Spec L2 PL
open PyProof.Rows hiding St
@[simp] theorem sMut0_eq {i : Nat} {g : List PV → R (List PV)} {ρ : Rho} : sMut0 i g ρ = onOwn (getOwn ρ i) fun ps => R.own (g ps) ρ i := by
  unfold sMut0 getOwn
  cases ρ[i]? with
  | none => rfl
  | some t => cases t <;> rfl
@[simp] theorem clearP_eq {ps : List PV} : clearP ps = .ok [] := nr rfl
def onSome {α : Type} (o : Option α) (k : α → Out) : Out := match o with
  | some a => k a
  | none => .stuck
@[simp] theorem onSome_some {α : Type} {a : α} {k : α → Out} : onSome (some a) k = k a := nr rfl
@[simp] theorem sAugI_eq {i : Nat} {fi f : Rho → R PV} {ρ : Rho} : sAugI i fi f ρ = onOwn (getOwn ρ i) fun ps => (fi ρ).st ρ fun q => onSome (getN ps q) fun x => (f ρ).st ρ fun y => R.own (augN ps q x y) ρ i := by
  unfold sAugI getOwn
  cases ρ[i]? with
  | none => rfl
  | some t => cases t with
    | own ps =>
      dsimp only [onOwn, sE]
      cases fi ρ with
      | stuck => rfl
      | exc c => rfl
      | ok q =>
        dsimp only [R.st]
        cases getN ps q with
        | none => rfl
        | some x =>
          dsimp only [onSome, sE]
          cases f ρ <;> rfl
    | _ => rfl
end PM
set_option Elab.async false
set_option linter.all false
set_option maxRecDepth 100000
set_option autoImplicit false
set_option exponentiation.threshold 20000
namespace PM
open PySem PySem.Spec L2 PL
open PyProof.Rows hiding St
def PolyI (as : List Int) : Prop := 2 ≤ as.length ∧ as.length ≤ 9 ∧ as.getLast? ≠ some 0
abbrev Pt := Int × Int
def Abv (q a b : Pt) : Prop := (b.2 - a.2) * (q.1 - a.1) ≤ (q.2 - a.2) * (b.1 - a.1)
def Rises (a b c : Pt) : Prop := (b.2 - a.2) * (c.1 - b.1) < (c.2 - b.2) * (b.1 - a.1)
/-- the stack, its last point first, of a list of points -/
def Cv (S : List Pt) : List Pt → Prop
  | [] => True
  | [a] => a ∈ S
  | b :: a :: r => b ∈ S ∧ a.1 < b.1 ∧ (∀ q ∈ S, a.1 ≤ q.1 → q.1 ≤ b.1 → Abv q a b) ∧ (∀ z, r.head? = some z → Rises z a b) ∧ Cv S (a :: r)
theorem Cv.mem {S : List Pt} : ∀ {s : List Pt}, Cv S s → ∀ q ∈ s, q ∈ S
  | [], _, _, h => nomatch h
  | [a], h, q, hq => by rw [List.mem_singleton.mp hq]; exact h
  | b :: a :: r, h, q, hq => by
    rcases List.mem_cons.mp hq with rfl | hq
    · exact h.1
    · exact Cv.mem h.2.2.2.2 q hq
end PM
set_option Elab.async false
set_option linter.all false
set_option maxRecDepth 100000
set_option autoImplicit false
set_option exponentiation.threshold 20000
namespace PM
open PySem PySem.Spec L2 PL
open PyProof.Rows hiding St
theorem rev_at1 (pre r : List Pt) (a b : Pt) : (pre ++ b :: a :: r).reverse[r.length + 1]? = some b := by
  rw [List.reverse_append, List.reverse_cons, List.reverse_cons, List.append_assoc, List.append_assoc, List.getElem?_append_right (by simp)]
  simp
theorem rev_at0 (pre r : List Pt) (a b : Pt) : (pre ++ b :: a :: r).reverse[r.length]? = some a := by
  rw [List.reverse_append, List.reverse_cons, List.reverse_cons, List.append_assoc, List.append_assoc, List.getElem?_append_right (by simp)]
  simp
theorem Cv.at {S : List Pt} : ∀ {s : List Pt}, Cv S s → ∀ k, k + 1 < s.length → ∃ a c, s.reverse[k]? = some a ∧ s.reverse[k + 1]? = some c ∧ a.1 < c.1 ∧ c ∈ S ∧ a ∈ S ∧ (∀ q ∈ S, a.1 ≤ q.1 → q.1 ≤ c.1 → Abv q a c) ∧ (∀ z, 1 ≤ k → s.reverse[k - 1]? = some z → Rises z a c)
  | [], _, k, hk => by simp at hk
  | [_], _, k, hk => by simp at hk
  | b :: a :: r, h, k, hk => by
    rw [List.length_cons, List.length_cons] at hk
    by_cases e : k + 1 < (a :: r).length
    · obtain ⟨x, y, h1, h2, h3⟩ := Cv.at h.2.2.2.2 k e
      have l : (a :: r).reverse.length = r.length + 1 := by rw [List.length_reverse, List.length_cons]
      rw [List.length_cons] at e
      refine ⟨x, y, by rw [List.reverse_cons, List.getElem?_append_left (by omega)]; exact h1, by rw [List.reverse_cons, List.getElem?_append_left (by omega)]; exact h2, h3.1, h3.2.1, h3.2.2.1, h3.2.2.2.1, fun z k1 hz => h3.2.2.2.2 z k1 ?_⟩
      rw [List.reverse_cons, List.getElem?_append_left (by omega)] at hz
      exact hz
    · rw [List.length_cons] at e
      have e' : k = r.length := by omega
      subst e'
      refine ⟨a, b, rev_at0 [] r a b, rev_at1 [] r a b, h.2.1, h.1, Cv.mem h.2.2.2.2 a List.mem_cons_self, h.2.2.1, fun z k1 hz => h.2.2.2.1 z ?_⟩
      cases r with
      | nil => simp at k1
      | cons w r =>
        have := rev_at0 [b] r w a
        rw [show (b :: a :: w :: r).reverse = ([b] ++ a :: w :: r).reverse from rfl] at hz
        rw [List.length_cons, show r.length + 1 - 1 = r.length by omega, this] at hz
        exact hz
end PM
set_option Elab.async false
set_option linter.all false
set_option maxRecDepth 100000
set_option autoImplicit false
set_option exponentiation.threshold 20000
namespace PM
open PySem PySem.Spec L2 PL
open PyProof.Rows hiding St
noncomputable def vn (p : Int) (n : Nat) : Nat := (vp p n).toNat
theorem vn_spec {p : Int} (hp : 2 ≤ p) {n : Nat} (hn : 1 ≤ n) : ∃ m : Int, (n : Int) = m * p ^ vn p n ∧ m % p ≠ 0 ∧ 1 ≤ m ∧ vp p n = vn p n := by
  obtain ⟨m, v, h1, h2, h3⟩ := vp_spec hp (show (n : Int) ≠ 0 by omega)
  have e : vn p n = v := by unfold vn; rw [h3]; rfl
  have P : 0 < p ^ v := Int.pow_pos (by omega)
  refine ⟨m, by rw [e]; exact h1, h2, ?_, by rw [e]; exact h3⟩
  rcases Int.lt_or_le m 1 with g | g
  · have := Int.mul_le_mul_of_nonneg_right (show m ≤ 0 by omega) (show 0 ≤ p ^ v by omega)
    rw [Int.zero_mul] at this
    omega
  · exact g
theorem vn_uniq {p m : Int} {n v : Nat} (hp : 2 ≤ p) (hn : 1 ≤ n) (h : (n : Int) = m * p ^ v) (hm : m % p ≠ 0) : vn p n = v := by
  obtain ⟨m', h1, h2, _, _⟩ := vn_spec hp hn
  exact (vp_uniq hp (h.symm.trans h1) hm h2).symm
theorem vn_zero {p : Int} {n : Nat} (hp : 2 ≤ p) (hn : 1 ≤ n) (h : (n : Int) % p ≠ 0) : vn p n = 0 := vn_uniq (m := n) hp hn (by simp) h
/-- the figures' sum by a prime: what the factorials lack -/
def dsum (p : Nat) : Nat → Nat → Nat
  | 0, _ => 0
  | f + 1, n => n % p + dsum p f (n / p)
noncomputable def wf (p : Int) : Nat → Nat
  | 0 => 0
  | n + 1 => wf p n + vn p (n + 1)
theorem dsum_0 (p : Nat) : ∀ f : Nat, dsum p f 0 = 0
  | 0 => rfl
  | f + 1 => by rw [dsum, Nat.zero_mod, Nat.zero_div, Nat.zero_add, dsum_0 p f]
theorem dsum_fuel {p : Nat} (hp : 2 ≤ p) : ∀ (f g n : Nat), n ≤ f → n ≤ g → dsum p f n = dsum p g n
  | 0, g, n, h, _ => by
    have e : n = 0 := by omega
    subst e
    rw [dsum_0, dsum_0]
  | f + 1, 0, n, _, h => by
    have e : n = 0 := by omega
    subst e
    rw [dsum_0, dsum_0]
  | f + 1, g + 1, n, h1, h2 => by
    rw [dsum, dsum]
    have : n / p ≤ n / 2 := Nat.div_le_div_left hp (by omega)
    rw [dsum_fuel hp f g (n / p) (by omega) (by omega)]
theorem vn_dsum {p : Nat} (hp : 2 ≤ p) : ∀ (f n : Nat), n + 1 ≤ f → (p - 1) * vn p (n + 1) + dsum p f (n + 1) = 1 + dsum p f n
  | 0, _, h => by omega
  | f + 1, n, h => by
    by_cases c : (n + 1) % p = 0
    · obtain ⟨j, hj⟩ : ∃ j, n + 1 = p * j := ⟨(n + 1) / p, by have := Nat.div_add_mod (n + 1) p; omega⟩
      have j0 : j ≠ 0 := fun z => by rw [z] at hj; omega
      obtain ⟨i, rfl⟩ : ∃ i, j = i + 1 := ⟨j - 1, by omega⟩
      have hn : n = p * i + (p - 1) := by rw [Nat.mul_add] at hj; omega
      have d1 : (n + 1) / p = i + 1 := by rw [hj]; exact Nat.mul_div_cancel_left _ (by omega)
      have d2 : n / p = i := by rw [hn, Nat.mul_add_div (by omega), Nat.div_eq_of_lt (by omega)]; omega
      have m2 : n % p = p - 1 := by rw [hn, Nat.mul_add_mod, Nat.mod_eq_of_lt (by omega)]
      have il : i + 1 ≤ f := by
        have : 2 * (i + 1) ≤ p * (i + 1) := Nat.mul_le_mul_right _ hp
        omega
      have ih := vn_dsum hp f i il
      obtain ⟨m, h1, h2, _, _⟩ := vn_spec (p := (p : Int)) (by omega) (show 1 ≤ i + 1 by omega)
      have e : vn p (n + 1) = vn p (i + 1) + 1 := vn_uniq (m := m) (by omega) (by omega) (by rw [hj, Int.natCast_mul, h1, Int.pow_succ]; grind) h2
      rw [dsum, dsum, c, d1, d2, m2, e, Nat.mul_add]
      omega
    · have hv : vn p (n + 1) = 0 := vn_zero (by omega) (by omega) (by omega)
      have hp0 : 0 < p := by omega
      have dm := Nat.div_add_mod n p
      have lt := Nat.mod_lt n hp0
      have e1 : n % p + 1 < p := by
        rcases Nat.lt_or_ge (n % p + 1) p with g | g
        · exact g
        · exfalso
          have : n + 1 = p * (n / p + 1) := by rw [Nat.mul_add]; omega
          rw [this] at c
          exact c (Nat.mul_mod_right _ _)
      have e2 : n + 1 = p * (n / p) + (n % p + 1) := by omega
      have d1 : (n + 1) / p = n / p := by
        conv => lhs; rw [e2]
        rw [Nat.mul_add_div hp0, Nat.div_eq_of_lt e1]; omega
      have d2 : (n + 1) % p = n % p + 1 := by
        conv => lhs; rw [e2]
        rw [Nat.mul_add_mod, Nat.mod_eq_of_lt e1]
      rw [dsum, dsum, hv, d1, d2]
      omega
theorem wf_dsum {p : Nat} (hp : 2 ≤ p) (f : Nat) : ∀ n : Nat, n ≤ f → (p - 1) * wf p n + dsum p f n = n
  | 0, _ => by
    have := dsum_fuel hp f 0 0 (by omega) (by omega)
    rw [wf, Nat.mul_zero, this]; rfl
  | n + 1, h => by
    have ih := wf_dsum hp f n (by omega)
    have s := vn_dsum hp f n h
    rw [wf, Nat.mul_add]
    omega
theorem dsum_pos {p : Nat} (hp : 2 ≤ p) : ∀ (f n : Nat), n ≤ f → 1 ≤ n → 1 ≤ dsum p f n
  | 0, n, h, h2 => by omega
  | f + 1, n, h, h2 => by
    rw [dsum]
    by_cases c : n % p = 0
    · have : n / p ≤ n / 2 := Nat.div_le_div_left hp (by omega)
      have d := Nat.div_add_mod n p
      have : 1 ≤ n / p := by
        rcases Nat.eq_zero_or_pos (n / p) with g | g
        · rw [g] at d; omega
        · exact g
      have := dsum_pos hp f (n / p) (by omega) this
      omega
    · omega
theorem wf_lt {p : Int} (hp : 2 ≤ p) (n : Nat) (hn : 1 ≤ n) : (p - 1) * (wf p n : Int) ≤ n - 1 := by
  obtain ⟨q, rfl⟩ : ∃ q : Nat, p = q := ⟨p.toNat, by omega⟩
  have h1 := wf_dsum (p := q) (by omega) n n (Nat.le_refl _)
  have h2 := dsum_pos (p := q) (by omega) n n (Nat.le_refl _) hn
  have e : ((q - 1 : Nat) : Int) = (q : Int) - 1 := by omega
  have h3 : ((q - 1 : Nat) : Int) * (wf q n : Int) = (((q - 1) * wf q n : Nat) : Int) := by rw [Int.natCast_mul]
  rw [← e, h3]
  omega
theorem wf_le {p : Int} (hp : 2 ≤ p) (n : Nat) (hn : 1 ≤ n) : wf p n + 1 ≤ n := by
  have h := wf_lt hp n hn
  have : 1 * (wf p n : Int) ≤ (p - 1) * (wf p n : Int) := Int.mul_le_mul_of_nonneg_right (by omega) (by omega)
  omega
end PM
set_option Elab.async false
set_option linter.all false
set_option maxRecDepth 100000
set_option autoImplicit false
set_option exponentiation.threshold 20000
namespace PM
open PySem PySem.Spec L2 PL
open PyProof.Rows hiding St
theorem mo_iff {m x y : Int} : Mo m x y ↔ m ∣ x - y := by
  constructor
  · rintro ⟨z, h⟩; exact ⟨z, by omega⟩
  · rintro ⟨z, h⟩; exact ⟨z, by omega⟩
theorem Mo.canc {p m a b : Int} (hp : p ∈ primesL) (hm : m % p ≠ 0) {E v : Nat} (h : Mo (p ^ (E + v)) (m * p ^ v * a) (m * p ^ v * b)) : Mo (p ^ E) a b := by
  have hpb := primesL_le p hp
  have P : p ^ v ≠ 0 := Int.pow_ne_zero (by omega)
  rw [mo_iff] at h ⊢
  obtain ⟨z, hz⟩ := h
  have e : m * (a - b) = p ^ E * z := by
    rw [Int.pow_add] at hz
    refine Int.eq_of_mul_eq_mul_left P ?_
    grind
  have g : Int.gcd (p ^ E) m = 1 := by rw [Int.gcd_comm]; exact prime_gcd hp hm E
  have d : (p ^ E).natAbs ∣ m.natAbs * (a - b).natAbs := by rw [← Int.natAbs_mul]; exact Int.natAbs_dvd_natAbs.mpr ⟨z, e⟩
  exact Int.natAbs_dvd_natAbs.mp (Nat.Coprime.dvd_of_dvd_mul_left g d)
theorem Mo.cancP {p a b : Int} (hp : 2 ≤ p) {E v : Nat} (h : Mo (p ^ (E + v)) (p ^ v * a) (p ^ v * b)) : Mo (p ^ E) a b := by
  have P : p ^ v ≠ 0 := Int.pow_ne_zero (by omega)
  obtain ⟨z, hz⟩ := h
  refine ⟨z, Int.eq_of_mul_eq_mul_left P ?_⟩
  rw [hz, Int.pow_add]
  grind
theorem pow_mo0 {p x : Int} {s : Nat} (h : Mo (p ^ s) x 0) (k : Nat) : Mo (p ^ (s * k)) (x ^ k) 0 := by
  obtain ⟨z, hz⟩ := h
  refine ⟨z ^ k, ?_⟩
  rw [hz, Int.zero_add, Int.mul_pow, Int.pow_mul, Int.zero_add]
def fac : Nat → Int
  | 0 => 1
  | n + 1 => fac n * ((n + 1 : Nat) : Int)
noncomputable def mfc (p : Int) : Nat → Int
  | 0 => 1
  | n + 1 => mfc p n * (((n + 1 : Nat) : Int) / p ^ vn p (n + 1))
theorem vn_div {p : Int} (hp : 2 ≤ p) {n : Nat} (hn : 1 ≤ n) : (n : Int) = (n : Int) / p ^ vn p n * p ^ vn p n ∧ ((n : Int) / p ^ vn p n) % p ≠ 0 ∧ 1 ≤ (n : Int) / p ^ vn p n ∧ (n : Int) / p ^ vn p n ≤ n := by
  obtain ⟨m, h1, h2, h3, _⟩ := vn_spec hp hn
  have P : 0 < p ^ vn p n := Int.pow_pos (by omega)
  have e : (n : Int) / p ^ vn p n = m := by
    conv => lhs; rw [h1]
    exact Int.mul_ediv_cancel _ (by omega)
  rw [e]
  refine ⟨h1, h2, h3, ?_⟩
  have := Int.mul_le_mul_of_nonneg_left (show 1 ≤ p ^ vn p n by omega) (show 0 ≤ m by omega)
  omega
theorem mfc_spec {p : Int} (hp : p ∈ primesL) : ∀ n : Nat, fac n = mfc p n * p ^ wf p n ∧ mfc p n % p ≠ 0
  | 0 => by
    have hpb := primesL_le p hp
    refine ⟨by simp [fac, mfc, wf], ?_⟩
    rw [mfc, Int.emod_eq_of_lt (by omega) (by omega)]; decide
  | n + 1 => by
    have hpb := primesL_le p hp
    obtain ⟨h1, h2⟩ := mfc_spec hp n
    obtain ⟨g1, g2, _⟩ := vn_div hpb.1 (show 1 ≤ n + 1 by omega)
    refine ⟨?_, prime_mulI hp h2 g2⟩
    rw [fac, h1, mfc, wf, Int.pow_add]
    conv => lhs; rw [g1]
    grind
def sms (q : Nat → Int) : Nat → Int
  | 0 => q 0
  | n + 1 => sms q n + q (n + 1)
def LgQ (p : Int) (E : Nat) (x : Int) (q : Nat → Int) (N : Nat) : Prop := ∀ k : Nat, 1 ≤ k → k ≤ N → Mo (p ^ (E + vn p k)) (k * q k) (x ^ k)
def ExQ (p : Int) (E : Nat) (x : Int) (q : Nat → Int) (N : Nat) : Prop := ∀ k : Nat, k ≤ N → Mo (p ^ (E + wf p k)) (fac k * q k) (x ^ k)
noncomputable def trn (a w : Int) : Int := match F_turned [.int a, .int w] with | .ok (.int z) => z | _ => 0
noncomputable def ep (p : Int) (n : Nat) (u : Int) : Nat → Int
  | 0 => 1
  | k + 1 => ep p n u k * u * trn (((k + 1 : Nat) : Int) / p ^ vn p (k + 1)) (p ^ n) % p ^ n
noncomputable def er (p : Int) (s k : Nat) : Nat := k * s - wf p k
end PM
set_option Elab.async false
set_option linter.all false
set_option maxRecDepth 100000
set_option autoImplicit false
set_option exponentiation.threshold 20000
namespace PM
theorem Mo.zero {m x : Int} (z : Int) (h : x = m * z) : Mo m x 0 := ⟨z, by rw [h, Int.zero_add]⟩
theorem Mo.scaleP {p X Y c : Int} {a b : Nat} (h : Mo (p ^ a) X Y) (hc : Mo (p ^ b) c 0) : Mo (p ^ (a + b)) (X * c) (Y * c) := by
  obtain ⟨z, hz⟩ := h
  obtain ⟨w, hw⟩ := hc
  exact ⟨z * w, by rw [hz, hw, Int.pow_add]; grind⟩
theorem Mo.zeroP {p X c : Int} {a b : Nat} (h : Mo (p ^ a) X 0) (hc : Mo (p ^ b) c 0) : Mo (p ^ (a + b)) (X * c) 0 := by
  have := Mo.scaleP h hc
  rwa [Int.zero_mul] at this
theorem Mo.zero_mul {m X : Int} (c : Int) (h : Mo m X 0) : Mo m (X * c) 0 := by
  obtain ⟨z, hz⟩ := h
  exact ⟨z * c, by rw [hz]; grind⟩
theorem sms_tail {W : Int} {q : Nat → Int} {M : Nat} : ∀ N : Nat, M ≤ N → (∀ k, M < k → k ≤ N → Mo W (q k) 0) → Mo W (sms q N) (sms q M)
  | 0, h, _ => by
    have e : M = 0 := by omega
    subst e; exact .refl _ _
  | N + 1, h, t => by
    by_cases e : M = N + 1
    · subst e; exact .refl _ _
    · have ih := sms_tail N (by omega) fun k h1 h2 => t k h1 (by omega)
      rw [sms]
      exact (ih.add (t (N + 1) (by omega) (by omega))).trans (.of_eq (Int.add_zero _))
section
variable {p x : Int} {E : Nat}
theorem ex_tail (hp : p ∈ primesL) {e : Nat → Int} {N s k : Nat} (h : ExQ p E x e N) (hx : Mo (p ^ s) x 0) (hN : k ≤ N) (hs : E + wf p k ≤ s * k) : Mo (p ^ E) (e k) 0 := by
  obtain ⟨f1, f2⟩ := mfc_spec hp k
  have a := (h k hN).trans ((pow_mo0 hx k).low hs)
  refine Mo.canc hp f2 (v := wf p k) ?_
  rw [← f1, Int.mul_zero]; exact a
end
theorem LgQ.low {p x : Int} {E F N : Nat} {q : Nat → Int} (h : LgQ p E x q N) (hF : F ≤ E) : LgQ p F x q N := fun k h1 h2 => (h k h1 h2).low (by omega)
theorem ExQ.low {p x : Int} {E F N : Nat} {q : Nat → Int} (h : ExQ p E x q N) (hF : F ≤ E) : ExQ p F x q N := fun k h2 => (h k h2).low (by omega)
end PM
set_option Elab.async false
set_option linter.all false
set_option maxRecDepth 100000
set_option autoImplicit false
set_option exponentiation.threshold 20000
namespace PM
def cb : Nat → Nat → Int
  | _, 0 => 1
  | 0, _ + 1 => 0
  | n + 1, k + 1 => cb n k + cb n (k + 1)
theorem cb_zero (n : Nat) : cb n 0 = 1 := by cases n <;> rfl
theorem cb_step (n k : Nat) : cb (n + 1) (k + 1) = cb n k + cb n (k + 1) := rfl
theorem cb_abs : ∀ n k : Nat, ((k + 1 : Nat) : Int) * cb (n + 1) (k + 1) = ((n + 1 : Nat) : Int) * cb n k
  | 0, 0 => by rw [cb_step, cb_zero]; rfl
  | 0, k + 1 => by rw [cb_step]; show ((k + 1 + 1 : Nat) : Int) * (0 + 0) = ((0 + 1 : Nat) : Int) * 0; omega
  | n + 1, 0 => by
    have h := cb_abs n 0
    rw [cb_step (n + 1) 0, cb_zero]
    rw [cb_zero] at h
    have e : ((0 + 1 : Nat) : Int) = 1 := rfl
    rw [e] at h ⊢
    have e2 : ((n + 1 + 1 : Nat) : Int) = ((n + 1 : Nat) : Int) + 1 := by omega
    rw [e2]
    grind
  | n + 1, k + 1 => by
    have h1 := cb_abs n (k + 1)
    have h0 := cb_abs n k
    have s := cb_step (n + 1) (k + 1)
    have t := cb_step n k
    have e1 : ((k + 1 + 1 : Nat) : Int) = ((k + 1 : Nat) : Int) + 1 := by omega
    have e2 : ((n + 1 + 1 : Nat) : Int) = ((n + 1 : Nat) : Int) + 1 := by omega
    rw [e1] at h1
    rw [s, e1, e2]
    obtain ⟨a, ha⟩ : ∃ a, a = ((k + 1 : Nat) : Int) := ⟨_, rfl⟩
    obtain ⟨b, hb⟩ : ∃ b, b = ((n + 1 : Nat) : Int) := ⟨_, rfl⟩
    rw [← ha, ← hb] at h1 h0 ⊢
    grind
theorem cb_big : ∀ n k : Nat, n < k → cb n k = 0
  | _, 0, h => by omega
  | 0, k + 1, _ => rfl
  | n + 1, k + 1, h => by rw [cb_step, cb_big n k (by omega), cb_big n (k + 1) (by omega)]; rfl
def Lg (p : Int) (E : Nat) (x T : Int) : Prop := ∃ K0 : Nat, ∀ K : Nat, K0 ≤ K → Mo (p ^ (E + K)) (p ^ K * T) ((1 + x) ^ (p.toNat ^ K) - 1)
theorem Lg.low {p x T : Int} {E F : Nat} (h : Lg p E x T) (hF : F ≤ E) : Lg p F x T := by
  obtain ⟨K0, h⟩ := h
  exact ⟨K0, fun K hK => (h K hK).low (by omega)⟩
theorem Lg.uniq {p x T S : Int} (hp : 2 ≤ p) {E : Nat} (h : Lg p E x T) (g : Lg p E x S) : Mo (p ^ E) T S := by
  obtain ⟨K0, h⟩ := h
  obtain ⟨K1, g⟩ := g
  exact Mo.cancP hp (v := K0 + K1) ((h (K0 + K1) (by omega)).trans (g (K0 + K1) (by omega)).symm)
theorem Lg.mul {p x y T S : Int} {E : Nat} (h : Lg p E x T) (g : Lg p E y S) : Lg p E (x + y + x * y) (T + S) := by
  obtain ⟨K0, h⟩ := h
  obtain ⟨K1, g⟩ := g
  refine ⟨E + K0 + K1, fun K hK => ?_⟩
  have h := h K (by omega)
  have g := g K (by omega)
  obtain ⟨X, hX⟩ : ∃ X, X = (1 + x) ^ (p.toNat ^ K) - 1 := ⟨_, rfl⟩
  obtain ⟨Y, hY⟩ : ∃ Y, Y = (1 + y) ^ (p.toNat ^ K) - 1 := ⟨_, rfl⟩
  have e : (1 + (x + y + x * y)) ^ (p.toNat ^ K) - 1 = X + Y + X * Y := by
    have e1 : 1 + (x + y + x * y) = (1 + x) * (1 + y) := by grind
    rw [e1, Int.mul_pow, hX, hY]
    grind
  rw [← hX] at h
  rw [← hY] at g
  rw [e]
  have z : Mo (p ^ (E + K)) (X * Y) 0 := by
    have x0 : Mo (p ^ K) X 0 := (h.symm.low (by omega)).trans (Mo.zero T rfl)
    have y0 : Mo (p ^ K) Y 0 := (g.symm.low (by omega)).trans (Mo.zero S rfl)
    exact (Mo.zeroP x0 y0).low (by omega)
  have s := (h.add g).add z.symm
  exact (Mo.of_eq (by grind)).trans s
end PM
set_option Elab.async false
set_option linter.all false
set_option maxRecDepth 100000
set_option autoImplicit false
set_option exponentiation.threshold 20000
namespace PM
open PySem PySem.Spec L2 PL
open PyProof.Rows hiding St
theorem sms_front (f : Nat → Int) : ∀ M : Nat, sms f (M + 1) = f 0 + sms (fun i => f (i + 1)) M
  | 0 => rfl
  | M + 1 => by
    have ih := sms_front f M
    rw [show sms f (M + 1 + 1) = sms f (M + 1) + f (M + 1 + 1) from rfl, ih]
    show f 0 + sms (fun i => f (i + 1)) M + f (M + 1 + 1) = f 0 + (sms (fun i => f (i + 1)) M + f (M + 1 + 1))
    omega
theorem sms_add (f g : Nat → Int) : ∀ M : Nat, sms (fun i => f i + g i) M = sms f M + sms g M
  | 0 => rfl
  | M + 1 => by
    have ih := sms_add f g M
    show sms (fun i => f i + g i) M + (f (M + 1) + g (M + 1)) = sms f M + f (M + 1) + (sms g M + g (M + 1))
    omega
theorem sms_mul (c : Int) (f : Nat → Int) : ∀ M : Nat, sms (fun i => c * f i) M = c * sms f M
  | 0 => rfl
  | M + 1 => by
    have ih := sms_mul c f M
    show sms (fun i => c * f i) M + c * f (M + 1) = c * (sms f M + f (M + 1))
    rw [ih]; grind
theorem sms_ext {f g : Nat → Int} : ∀ M : Nat, (∀ i, i ≤ M → f i = g i) → sms f M = sms g M
  | 0, h => h 0 (Nat.le_refl _)
  | M + 1, h => by
    rw [sms, sms, sms_ext M fun i hi => h i (by omega), h (M + 1) (Nat.le_refl _)]
theorem sms_cong {W : Int} {f g : Nat → Int} : ∀ M : Nat, (∀ i, i ≤ M → Mo W (f i) (g i)) → Mo W (sms f M) (sms g M)
  | 0, h => h 0 (Nat.le_refl _)
  | M + 1, h => (sms_cong M fun i hi => h i (by omega)).add (h (M + 1) (Nat.le_refl _))
/-- a triangle of products, by rows and by columns -/
theorem tri (e f : Nat → Int) : ∀ N : Nat, sms (fun n => sms (fun i => e i * f (n - i)) n) N = sms (fun i => e i * sms f (N - i)) N
  | 0 => rfl
  | N + 1 => by
    have ih := tri e f N
    have e1 : sms (fun n => sms (fun i => e i * f (n - i)) n) (N + 1) = sms (fun n => sms (fun i => e i * f (n - i)) n) N + sms (fun i => e i * f (N + 1 - i)) (N + 1) := rfl
    have e2 : sms (fun i => e i * f (N + 1 - i)) (N + 1) = sms (fun i => e i * f (N + 1 - i)) N + e (N + 1) * f (N + 1 - (N + 1)) := rfl
    have e3 : sms (fun i => e i * sms f (N + 1 - i)) (N + 1) = sms (fun i => e i * sms f (N + 1 - i)) N + e (N + 1) * sms f (N + 1 - (N + 1)) := rfl
    have e4 : sms (fun i => e i * sms f (N + 1 - i)) N = sms (fun i => e i * sms f (N - i) + e i * f (N + 1 - i)) N := sms_ext N fun i hi => by
      rw [show N + 1 - i = (N - i) + 1 by omega, sms]; grind
    rw [e1, ih, e2, e3, e4, sms_add, Nat.sub_self]
    show _ = _ + e (N + 1) * f 0
    omega
theorem binom2 (y w : Int) : ∀ n M : Nat, n ≤ M → sms (fun i => cb n i * y ^ i * w ^ (M - i)) M = (y + w) ^ n * w ^ (M - n)
  | 0, M, _ => by
    cases M with
    | zero => show cb 0 0 * y ^ 0 * w ^ (0 - 0) = _; simp [cb_zero]
    | succ M =>
      rw [sms_front]
      have z : sms (fun i => cb 0 (i + 1) * y ^ (i + 1) * w ^ (M + 1 - (i + 1))) M = 0 := by
        have : sms (fun i => cb 0 (i + 1) * y ^ (i + 1) * w ^ (M + 1 - (i + 1))) M = sms (fun i => 0 * (0 : Int)) M := sms_ext M fun i _ => by rw [cb_big 0 (i + 1) (by omega)]; simp
        rw [this, sms_mul, Int.zero_mul]
      rw [z, cb_zero]; simp
  | n + 1, M, h => by
    obtain ⟨m, rfl⟩ : ∃ m, M = m + 1 := ⟨M - 1, by omega⟩
    have i1 := binom2 y w n (m + 1) (by omega)
    have i2 := binom2 y w n m (by omega)
    rw [sms_front] at i1 ⊢
    have e : sms (fun i => cb (n + 1) (i + 1) * y ^ (i + 1) * w ^ (m + 1 - (i + 1))) m = sms (fun i => cb n (i + 1) * y ^ (i + 1) * w ^ (m + 1 - (i + 1)) + y * (cb n i * y ^ i * w ^ (m - i))) m := sms_ext m fun i hi => by
      rw [cb_step, show m + 1 - (i + 1) = m - i by omega, Int.pow_succ]; grind
    rw [e, sms_add, sms_mul, i2]
    rw [cb_zero] at i1 ⊢
    rw [show m + 1 - n = (m - n) + 1 by omega, Int.pow_succ] at i1
    rw [show m + 1 - (n + 1) = m - n by omega, Int.pow_succ (y + w)]
    grind
theorem cb_fac : ∀ n k : Nat, k ≤ n → cb n k * fac k * fac (n - k) = fac n
  | n, 0, _ => by rw [cb_zero, fac, Nat.sub_zero]; omega
  | 0, k + 1, h => by omega
  | n + 1, k + 1, h => by
    have ih := cb_fac n k (by omega)
    have ab := cb_abs n k
    rw [show n + 1 - (k + 1) = n - k by omega, fac, fac, ← ih]
    grind
def Nr (p y : Int) : Prop := Mo (p ^ 1) y 0 ∧ (p = 2 → Mo (p ^ 2) y 0)
theorem Nr.add {p y w : Int} (h : Nr p y) (g : Nr p w) : Nr p (y + w) := by
  refine ⟨by have := h.1.add g.1; rwa [Int.add_zero] at this, fun e => by have := (h.2 e).add (g.2 e); rwa [Int.add_zero] at this⟩
theorem half {p y : Int} (hp : p ∈ primesL) (h : Nr p y) {E a i N : Nat} {e : Nat → Int} (he : ExQ p E y e N) (hi : i ≤ N) (ha : a ≤ E) (ha2 : a ≤ (i + 1) / 2) : Mo (p ^ a) (e i) 0 := by
  have hpb := primesL_le p hp
  by_cases i0 : i = 0
  · subst i0
    have : a = 0 := by omega
    subst this
    exact ⟨e 0, by simp⟩
  · have w := wf_le hpb.1 i (by omega)
    by_cases e2 : p = 2
    · exact ex_tail hp (he.low ha) (h.2 e2) hi (by omega)
    · refine ex_tail hp (he.low ha) h.1 hi ?_
      have w2 := wf_lt hpb.1 i (by omega)
      have : 2 * (wf p i : Int) ≤ (p - 1) * (wf p i : Int) := Int.mul_le_mul_of_nonneg_right (by omega) (by omega)
      omega
theorem wf_add {p : Int} (hp : p ∈ primesL) {n i : Nat} (hi : i ≤ n) : wf p i + wf p (n - i) ≤ wf p n := by
  have hpb := primesL_le p hp
  obtain ⟨a1, a2⟩ := mfc_spec hp i
  obtain ⟨b1, b2⟩ := mfc_spec hp (n - i)
  obtain ⟨c1, c2⟩ := mfc_spec hp n
  have cf := cb_fac n i hi
  rcases Nat.lt_or_ge (wf p n) (wf p i + wf p (n - i)) with g | g
  · exfalso
    obtain ⟨d, hd⟩ : ∃ d, wf p i + wf p (n - i) = wf p n + (d + 1) := ⟨wf p i + wf p (n - i) - wf p n - 1, by omega⟩
    have e : mfc p n * p ^ wf p n = cb n i * mfc p i * mfc p (n - i) * p ^ (d + 1) * p ^ wf p n := by
      rw [← c1, ← cf, a1, b1]
      have : p ^ wf p i * p ^ wf p (n - i) = p ^ wf p n * p ^ (d + 1) := by rw [← Int.pow_add, ← Int.pow_add, hd]
      grind
    have e2 := Int.eq_of_mul_eq_mul_right (Int.pow_ne_zero (show p ≠ 0 by omega)) e
    rw [e2, Int.pow_succ, ← Int.mul_assoc, Int.mul_emod_left] at c2
    exact c2 rfl
  · exact g
theorem cb_wf {p : Int} (hp : p ∈ primesL) {n i : Nat} (hi : i ≤ n) : Mo (p ^ (wf p n - (wf p i + wf p (n - i)))) (cb n i) 0 := by
  obtain ⟨a1, a2⟩ := mfc_spec hp i
  obtain ⟨b1, b2⟩ := mfc_spec hp (n - i)
  obtain ⟨c1, c2⟩ := mfc_spec hp n
  have cf := cb_fac n i hi
  have w := wf_add hp hi
  refine Mo.canc hp (prime_mulI hp a2 b2) (v := wf p i + wf p (n - i)) ?_
  rw [show wf p n - (wf p i + wf p (n - i)) + (wf p i + wf p (n - i)) = wf p n by omega, Int.mul_zero]
  refine Mo.zero (mfc p n) ?_
  have e : mfc p i * mfc p (n - i) * p ^ (wf p i + wf p (n - i)) * cb n i = cb n i * fac i * fac (n - i) := by rw [a1, b1, Int.pow_add]; grind
  rw [e, cf, c1, Int.mul_comm]
theorem nr_wf {p y : Int} (hp : p ∈ primesL) (h : Nr p y) (i : Nat) : Mo (p ^ wf p i) (y ^ i) 0 := by
  have hpb := primesL_le p hp
  have z := pow_mo0 h.1 i
  by_cases i0 : i = 0
  · subst i0; exact ⟨y ^ 0, by simp [wf]⟩
  · have w := wf_le hpb.1 i (by omega)
    exact z.low (by omega)
theorem conv {p y w : Int} (hp : p ∈ primesL) (hy : Nr p y) (hw : Nr p w) {E N : Nat} {e f : Nat → Int} (he : ExQ p E y e N) (hf : ExQ p E w f N) : ExQ p E (y + w) (fun n => sms (fun i => e i * f (n - i)) n) N := by
  intro n hn
  have b := binom2 y w n n (Nat.le_refl _)
  rw [Nat.sub_self, Int.pow_zero, Int.mul_one] at b
  rw [← b, ← sms_mul]
  refine sms_cong n fun i hi => ?_
  have cf := cb_fac n i hi
  have wa := wf_add hp hi
  have x1 := he i (by omega)
  have x2 := hf (n - i) (by omega)
  obtain ⟨b1, _⟩ := mfc_spec hp (n - i)
  have s1 := Mo.scaleP x1 (Mo.zero (m := p ^ wf p (n - i)) (mfc p (n - i) * f (n - i)) (show fac (n - i) * f (n - i) = _ by rw [b1]; grind))
  have s2 := Mo.scaleP x2 (nr_wf hp hy i)
  have s3 : Mo (p ^ (E + (wf p i + wf p (n - i)))) (fac i * e i * (fac (n - i) * f (n - i))) (y ^ i * w ^ (n - i)) := by
    rw [show E + wf p i + wf p (n - i) = E + (wf p i + wf p (n - i)) by omega] at s1
    rw [show E + wf p (n - i) + wf p i = E + (wf p i + wf p (n - i)) by omega] at s2
    exact s1.trans ((Mo.of_eq (Int.mul_comm _ _)).trans (s2.trans (.of_eq (Int.mul_comm _ _))))
  have s4 := Mo.scaleP s3 (cb_wf hp hi)
  rw [show E + (wf p i + wf p (n - i)) + (wf p n - (wf p i + wf p (n - i))) = E + wf p n by omega] at s4
  refine (Mo.of_eq ?_).trans (s4.trans (.of_eq (by grind)))
  rw [← cf]
  grind
def Ex (p : Int) (E : Nat) (y W : Int) : Prop := ∃ (e : Nat → Int), ExQ p E y e (2 * E + 1) ∧ Mo (p ^ E) W (sms e (2 * E + 1))
theorem exq_uniq {p y : Int} (hp : p ∈ primesL) {E N : Nat} {e f : Nat → Int} (he : ExQ p E y e N) (hf : ExQ p E y f N) : ∀ i, i ≤ N → Mo (p ^ E) (e i) (f i) := fun i hi => by
  obtain ⟨a1, a2⟩ := mfc_spec hp i
  refine Mo.canc hp a2 (v := wf p i) ?_
  rw [← a1]
  exact (he i hi).trans (hf i hi).symm
theorem Ex.uniq {p y W Z : Int} (hp : p ∈ primesL) {E : Nat} (h : Ex p E y W) (g : Ex p E y Z) : Mo (p ^ E) W Z := by
  obtain ⟨e, he, hW⟩ := h
  obtain ⟨f, hf, hZ⟩ := g
  exact hW.trans ((sms_cong _ fun i hi => exq_uniq hp he hf i hi).trans hZ.symm)
theorem Ex.low {p y W : Int} (hp : p ∈ primesL) (hy : Nr p y) {E F : Nat} (h : Ex p E y W) (hF : F ≤ E) : Ex p F y W := by
  obtain ⟨e, he, hW⟩ := h
  refine ⟨e, fun k hk => (he.low hF) k (by omega), (hW.low hF).trans ?_⟩
  exact sms_tail _ (by omega) fun k k1 k2 => half hp hy he k2 hF (by omega)
theorem Ex.add {p y w W Z : Int} (hp : p ∈ primesL) (hy : Nr p y) (hw : Nr p w) {E : Nat} (h : Ex p E y W) (g : Ex p E w Z) : Ex p E (y + w) (W * Z) := by
  obtain ⟨e, he, hW⟩ := h
  obtain ⟨f, hf, hZ⟩ := g
  obtain ⟨N, hN⟩ : ∃ N, N = 2 * E + 1 := ⟨_, rfl⟩
  rw [← hN] at he hW hf hZ
  refine ⟨_, by rw [← hN]; exact conv hp hy hw he hf, ?_⟩
  rw [← hN, tri]
  have s : Mo (p ^ E) (sms e N * sms f N) (sms (fun i => e i * sms f (N - i)) N) := by
    rw [Int.mul_comm, ← sms_mul]
    refine sms_cong N fun i hi => ?_
    rw [Int.mul_comm]
    obtain ⟨a, ha⟩ : ∃ a, a = min E ((i + 1) / 2) := ⟨_, rfl⟩
    have ea := half hp hy he hi (show a ≤ E by omega) (by omega)
    have ft : Mo (p ^ (E - a)) (sms f N) (sms f (N - i)) := sms_tail N (by omega) fun k k1 k2 => half hp hw hf k2 (by omega) (by omega)
    have t := Mo.scaleP ft ea
    rw [show E - a + a = E by omega] at t
    exact (Mo.of_eq (Int.mul_comm _ _)).trans (t.trans (.of_eq (Int.mul_comm _ _)))
  exact (hW.mul hZ).trans s
theorem Lg.inj {p x y T : Int} (hp : p ∈ primesL) (hx : Nr p x) (hy : Nr p y) {E : Nat} (h : Lg p E x T) (g : Lg p E y T) : Mo (p ^ E) x y := by
  have hpb := primesL_le p hp
  obtain ⟨K0, h⟩ := h
  obtain ⟨K1, g⟩ := g
  have e := (h (K0 + K1) (by omega)).symm.trans (g (K0 + K1) (by omega))
  obtain ⟨K, hK⟩ : ∃ K, K = K0 + K1 := ⟨_, rfl⟩
  rw [← hK] at e
  by_cases d0 : x - y = 0
  · exact .of_eq (by omega)
  obtain ⟨u, j, e1, e2, _⟩ := vp_spec hpb.1 d0
  rcases Nat.lt_or_ge j E with jE | jE
  · exfalso
    have near : ∀ s : Nat, Mo (p ^ s) (x - y) 0 → s ≤ j := fun s hs => by
      rcases Nat.lt_or_ge j s with g | g
      · exfalso
        obtain ⟨z, hz⟩ := hs
        rw [Int.zero_add, e1] at hz
        obtain ⟨d, hd⟩ : ∃ d, s = j + (d + 1) := ⟨s - j - 1, by omega⟩
        rw [hd, Int.pow_add] at hz
        have pj : p ^ j ≠ 0 := Int.pow_ne_zero (by omega)
        have : u = p ^ (d + 1) * z := Int.eq_of_mul_eq_mul_right pj (by rw [hz]; grind)
        rw [this, Int.pow_succ, Int.mul_assoc, Int.mul_comm p z, ← Int.mul_assoc, Int.mul_emod_left] at e2
        exact e2 rfl
      · exact g
    have j1 := near 1 (by have := hx.1.sub hy.1; rwa [Int.sub_self] at this)
    have j2 : p = 2 → 2 ≤ j := fun q => near 2 (by have := (hx.2 q).sub (hy.2 q); rwa [Int.sub_self] at this)
    have B1 : (1 + y) % p ≠ 0 := by
      obtain ⟨z, hz⟩ := hy.1
      rw [hz, Int.pow_succ, Int.pow_zero, Int.zero_add, Int.one_mul, Int.add_mul_emod_self_left, Int.emod_eq_of_lt (by omega) (by omega)]
      decide
    obtain ⟨y', q1, q2⟩ := lte_t hp B1 j u j1 j2 K
    have xe : 1 + x = 1 + y + p ^ j * u := by rw [Int.mul_comm]; omega
    rw [xe, q1] at e
    obtain ⟨z, hz⟩ := e
    have f : p ^ (j + K) * y' = p ^ (E + K) * z := by omega
    obtain ⟨d, hd⟩ : ∃ d, E + K = (j + K) + (d + 1) := ⟨E - j - 1, by omega⟩
    rw [hd, Int.pow_add p (j + K) (d + 1)] at f
    have pj : p ^ (j + K) ≠ 0 := Int.pow_ne_zero (by omega)
    have : y' = p ^ (d + 1) * z := Int.eq_of_mul_eq_mul_left pj (by rw [f]; grind)
    have q3 := q2 e2
    rw [this, Int.pow_succ, Int.mul_assoc, Int.mul_comm p z, ← Int.mul_assoc, Int.mul_emod_left] at q3
    exact q3 rfl
  · obtain ⟨d, rfl⟩ : ∃ d, j = E + d := ⟨j - E, by omega⟩
    refine ⟨u * p ^ d, ?_⟩
    rw [Int.pow_add] at e1
    have : u * (p ^ E * p ^ d) = p ^ E * (u * p ^ d) := by grind
    omega
end PM
set_option Elab.async false
set_option linter.all false
set_option maxRecDepth 100000
set_option autoImplicit false
set_option exponentiation.threshold 20000
namespace PM
open PySem PySem.Spec L2 PL
open PyProof.Rows hiding St
def slp : Nat → List Int → List Int
  | _, [] => []
  | n, a :: r => (n : Int) * a :: slp (n + 1) r
def at0 (l : List Int) (n : Nat) : Int := l.getD n 0
theorem at0_out {l : List Int} {n : Nat} (h : l.length ≤ n) : at0 l n = 0 := by unfold at0; rw [List.getD_eq_getElem?_getD, List.getElem?_eq_none h]; rfl
def prow (a b : List Int) (n : Nat) : Nat → Int
  | 0 => 0
  | k + 1 => prow a b n k + (if k ≤ n then at0 a k * at0 b (n - k) else 0)
/-- the product's numbers -/
def prodL (a b : List Int) : List Int := (List.range (a.length + b.length - 1)).map fun n => prow a b n a.length
theorem prodL_len (a b : List Int) : (prodL a b).length = a.length + b.length - 1 := by unfold prodL; rw [List.length_map, List.length_range]
theorem prodL_of {a b L : List Int} (hl : L.length = a.length + b.length - 1) (h : ∀ n, n < L.length → at0 L n = prow a b n a.length) : L = prodL a b := by
  refine List.ext_getElem? fun n => ?_
  rcases Nat.lt_or_ge n L.length with g | g
  · have e := h n g
    unfold at0 at e
    rw [List.getD_eq_getElem?_getD, List.getElem?_eq_getElem g, Option.getD_some] at e
    rw [List.getElem?_eq_getElem g, e]
    unfold prodL
    rw [List.getElem?_map, List.getElem?_range (by omega)]
    rfl
  · rw [List.getElem?_eq_none g, List.getElem?_eq_none (by rw [prodL_len]; omega)]
/-- the list while row k is added, up to its m-th number -/
def Part (a b L : List Int) (k m : Nat) : Prop := L.length = a.length + b.length - 1 ∧ ∀ n, n < L.length → at0 L n = prow a b n k + (if k ≤ n ∧ n - k < m then at0 a k * at0 b (n - k) else 0)
theorem Part.next {a b L : List Int} {k m : Nat} (h : Part a b L k m) (hk : k < a.length) (hm : m < b.length) : Part a b (L.set (k + m) (at0 L (k + m) + at0 a k * at0 b m)) k (m + 1) := by
  obtain ⟨h1, h2⟩ := h
  have kl : k + m < L.length := by omega
  refine ⟨by rw [List.length_set, h1], fun n hn => ?_⟩
  rw [List.length_set] at hn
  by_cases e : n = k + m
  · subst e
    have : at0 (L.set (k + m) (at0 L (k + m) + at0 a k * at0 b m)) (k + m) = at0 L (k + m) + at0 a k * at0 b m := by
      unfold at0
      rw [List.getD_eq_getElem?_getD, List.getElem?_set_self kl, Option.getD_some]
    rw [this, h2 _ kl, if_neg (by omega), if_pos (by omega), Int.add_zero, Nat.add_sub_cancel_left]
  · have : at0 (L.set (k + m) (at0 L (k + m) + at0 a k * at0 b m)) n = at0 L n := by
      unfold at0
      rw [List.getD_eq_getElem?_getD, List.getElem?_set_ne (fun z => e z.symm), ← List.getD_eq_getElem?_getD]
    rw [this, h2 n hn]
    congr 1
    by_cases q : k ≤ n ∧ n - k < m
    · rw [if_pos q, if_pos (by omega)]
    · rw [if_neg q, if_neg (by omega)]
theorem Part.row {a b L : List Int} {k : Nat} (h : Part a b L k b.length) : Part a b L (k + 1) 0 := by
  refine ⟨h.1, fun n hn => ?_⟩
  rw [h.2 n hn, prow]
  have z : ¬ (k + 1 ≤ n ∧ n - (k + 1) < 0) := by omega
  rw [if_neg z, Int.add_zero]
  congr 1
  by_cases q : k ≤ n
  · rw [if_pos q]
    by_cases w : n - k < b.length
    · rw [if_pos ⟨q, w⟩]
    · rw [if_neg (fun r => w r.2), at0_out (show b.length ≤ n - k by omega), Int.mul_zero]
  · rw [if_neg q, if_neg (fun r => q r.1)]
theorem Part.done {a b L : List Int} (h : Part a b L a.length 0) : L = prodL a b := prodL_of h.1 fun n hn => by rw [h.2 n hn, if_neg (by omega), Int.add_zero]
end PM
set_option Elab.async false
set_option linter.all false
set_option maxRecDepth 100000
set_option autoImplicit false
set_option exponentiation.threshold 20000
namespace PM
def ev : List Int → Int → Int
  | [], _ => 0
  | c :: r, x => c + x * ev r x
def syn (d : Int) : List Int → List Int
  | [] => []
  | c :: r => (c + d * (syn d r).headD 0) :: syn d r
theorem syn_len (d : Int) : ∀ cs : List Int, (syn d cs).length = cs.length
  | [] => rfl
  | c :: r => by rw [syn, List.length_cons, List.length_cons, syn_len d r]
def shf (d : Int) : Nat → List Int → List Int
  | 0, cs => cs
  | n + 1, cs => match syn d cs with
    | [] => []
    | v :: q => v :: shf d n q
theorem shf_len (d : Int) : ∀ (n : Nat) (cs : List Int), (shf d n cs).length = cs.length
  | 0, _ => rfl
  | n + 1, cs => by
    have l := syn_len d cs
    rw [shf]
    cases h : syn d cs with
    | nil => rw [← l, h]
    | cons v q => rw [← l, h]; simp [shf_len d n q]
/-- each number times a rising power -/
def scl (p : Int) : Int → List Int → List Int
  | _, [] => []
  | b, c :: r => c * b :: scl p (b * p) r
theorem scl_len (p : Int) : ∀ (b : Int) (cs : List Int), (scl p b cs).length = cs.length
  | _, [] => rfl
  | b, c :: r => by rw [scl, List.length_cons, List.length_cons, scl_len]
theorem ev_mul (k z : Int) : ∀ cs : List Int, ev (cs.map fun c => k * c) z = k * ev cs z
  | [] => by simp [ev]
  | c :: r => by rw [List.map_cons, ev, ev, ev_mul k z r]; grind
/-- bounds -/
theorem syn_bd {d : Int} {m : Nat} (hd : d.natAbs < 128 - 1) : ∀ cs : List Int, (∀ c ∈ cs, c.natAbs < 2 ^ m) → ∀ c ∈ syn d cs, c.natAbs < 2 ^ (m + 7 * cs.length)
  | [], _ => by simp [syn]
  | c :: r, h => by
    have ih := syn_bd hd r fun x hx => h x (List.mem_cons_of_mem _ hx)
    intro x hx
    rw [syn] at hx
    rw [List.length_cons]
    have up : (2 : Nat) ^ (m + 7 * (r.length + 1)) = 2 ^ (m + 7 * r.length) * 128 := by rw [show m + 7 * (r.length + 1) = m + 7 * r.length + 7 by omega, Nat.pow_add]
    have lo : (2 : Nat) ^ m ≤ 2 ^ (m + 7 * r.length) := Nat.pow_le_pow_right (by omega) (by omega)
    rw [up]
    rcases List.mem_cons.mp hx with hx | hx
    · subst hx
      have hc := h c List.mem_cons_self
      have hh : ((syn d r).headD 0).natAbs < 2 ^ (m + 7 * r.length) := by
        cases hs : syn d r with
        | nil => simpa using Nat.pow_pos (by omega : 0 < 2)
        | cons a l => exact ih a (by rw [hs]; exact List.mem_cons_self)
      have t := Int.natAbs_add_le c (d * (syn d r).headD 0)
      rw [Int.natAbs_mul] at t
      have m1 : d.natAbs * ((syn d r).headD 0).natAbs ≤ 126 * 2 ^ (m + 7 * r.length) := Nat.mul_le_mul (by omega) (by omega)
      omega
    · exact Nat.lt_of_lt_of_le (ih x hx) (by omega)
theorem shf_bd {d : Int} (hd : d.natAbs < 128 - 1) : ∀ (n : Nat) (m : Nat) (cs : List Int) (L : Nat), cs.length ≤ L → (∀ c ∈ cs, c.natAbs < 2 ^ m) → ∀ c ∈ shf d n cs, c.natAbs < 2 ^ (m + 7 * L * n)
  | 0, m, cs, L, _, h => by simpa [shf] using h
  | n + 1, m, cs, L, hl, h => by
    have b := syn_bd hd cs h
    have l := syn_len d cs
    intro x hx
    rw [shf] at hx
    have up : ∀ k : Nat, k ≤ m + 7 * L * (n + 1) → (2 : Nat) ^ k ≤ 2 ^ (m + 7 * L * (n + 1)) := fun k hk => Nat.pow_le_pow_right (by omega) hk
    have mm : 7 * L * (n + 1) = 7 * L * n + 7 * L := by rw [Nat.mul_succ]
    have pos : 0 ≤ 7 * L * n := Nat.zero_le _
    cases hs : syn d cs with
    | nil => rw [hs] at hx; cases hx
    | cons v q =>
      rw [hs] at hx b l
      have b' : ∀ c ∈ v :: q, c.natAbs < 2 ^ (m + 7 * L) := fun c hc => Nat.lt_of_lt_of_le (b c hc) (Nat.pow_le_pow_right (by omega) (by omega))
      rcases List.mem_cons.mp hx with hx | hx
      · subst hx
        exact Nat.lt_of_lt_of_le (b' x List.mem_cons_self) (up _ (by omega))
      · have ih := shf_bd hd n (m + 7 * L) q L (by rw [List.length_cons] at l; omega) (fun c hc => b' c (List.mem_cons_of_mem _ hc)) x hx
        exact Nat.lt_of_lt_of_le ih (up _ (by omega))
theorem scl_bd {p : Int} (hp : p.natAbs < 128) : ∀ (cs : List Int) (b : Int) (m k : Nat), b.natAbs < 2 ^ k → (∀ c ∈ cs, c.natAbs < 2 ^ m) → ∀ c ∈ scl p b cs, c.natAbs < 2 ^ (m + k + 7 * cs.length)
  | [], b, m, k, _, _ => by simp [scl]
  | c :: r, b, m, k, hb, h => by
    intro x hx
    rw [scl] at hx
    rcases List.mem_cons.mp hx with hx | hx
    · subst hx
      rw [Int.natAbs_mul]
      have : c.natAbs * b.natAbs < 2 ^ m * 2 ^ k := Nat.mul_lt_mul'' (h c List.mem_cons_self) hb
      rw [← Nat.pow_add] at this
      exact Nat.lt_of_lt_of_le this (Nat.pow_le_pow_right (by omega) (by omega))
    · have hb' : (b * p).natAbs < 2 ^ (k + 7) := by
        rw [Int.natAbs_mul, Nat.pow_add]
        exact Nat.mul_lt_mul'' hb (by omega)
      have ih := scl_bd hp r (b * p) m (k + 7) hb' (fun c hc => h c (List.mem_cons_of_mem _ hc)) x hx
      rw [List.length_cons]
      exact Nat.lt_of_lt_of_le ih (Nat.pow_le_pow_right (by omega) (by omega))
end PM
namespace PM
open PL (leastI leastI_mem leastI_le)
/-- the last number is not 0 -/
def NzL (cs : List Int) : Prop := ∃ x, cs.getLast? = some x ∧ x ≠ 0
theorem NzL.ne {cs : List Int} (h : NzL cs) : cs ≠ [] := fun z => by obtain ⟨x, e, _⟩ := h; rw [z] at e; cases e
theorem NzL.tail {c d : Int} {r : List Int} (h : NzL (c :: d :: r)) : NzL (d :: r) := by
  obtain ⟨x, e, n⟩ := h; exact ⟨x, by rw [List.getLast?_cons_cons] at e; exact e, n⟩
theorem NzL.cons {c : Int} {r : List Int} (h : NzL r) : NzL (c :: r) := by
  cases r with
  | nil => exact absurd rfl h.ne
  | cons d r => obtain ⟨x, e, n⟩ := h; exact ⟨x, by rw [List.getLast?_cons_cons]; exact e, n⟩
theorem NzL.mem {cs : List Int} (h : NzL cs) : ∃ c ∈ cs, c ≠ 0 := by
  obtain ⟨x, e, n⟩ := h; exact ⟨x, List.mem_of_getLast? e, n⟩
theorem syn_nz (d : Int) : ∀ cs : List Int, NzL cs → NzL (syn d cs)
  | [], h => absurd rfl h.ne
  | [c], h => by simpa [syn] using h
  | c :: a :: r, h => by
    have ih := syn_nz d (a :: r) h.tail
    rw [syn]; exact ih.cons
theorem shf_nz (d : Int) : ∀ (n : Nat) (cs : List Int), NzL cs → NzL (shf d n cs)
  | 0, _, h => h
  | n + 1, cs, h => by
    have s := syn_nz d cs h
    rw [shf]
    cases hs : syn d cs with
    | nil => exact absurd hs s.ne
    | cons v q =>
      rw [hs] at s
      cases q with
      | nil =>
        dsimp only
        have : shf d n [] = [] := List.length_eq_zero_iff.mp (by rw [shf_len]; rfl)
        rw [this]; exact s
      | cons a r => exact (shf_nz d n (a :: r) s.tail).cons
theorem scl_nz {p : Int} (hp : p ≠ 0) : ∀ (cs : List Int) (b : Int), b ≠ 0 → NzL cs → NzL (scl p b cs)
  | [], _, _, h => absurd rfl h.ne
  | [c], b, hb, h => by
    obtain ⟨x, e, n⟩ := h
    cases e
    exact ⟨c * b, rfl, Int.mul_ne_zero n hb⟩
  | c :: a :: r, b, hb, h => (scl_nz hp (a :: r) (b * p) (Int.mul_ne_zero hb hp) h.tail).cons
theorem nz_of_map {k : Int} {qs : List Int} (h : NzL (qs.map fun q => k * q)) : NzL qs := by
  obtain ⟨x, e, n⟩ := h
  rw [List.getLast?_map] at e
  cases hq : qs.getLast? with
  | none => rw [hq] at e; cases e
  | some y => rw [hq] at e; cases e; exact ⟨y, hq, fun z => n (by rw [z]; simp)⟩
/-- all numbers so many times divided -/
def dvs (p : Int) (n : Nat) (cs : List Int) : List Int := cs.map fun c => c / p ^ n
theorem dvs_len (p : Int) (n : Nat) (cs : List Int) : (dvs p n cs).length = cs.length := List.length_map ..
noncomputable def exps (p : Int) (cs : List Int) : List Int := (cs.filter fun c => decide (c ≠ 0)).map (vp p)
noncomputable def lfN (p : Int) (cs : List Int) : Nat := (leastI (exps p cs)).toNat
noncomputable def lfQ (p : Int) (cs : List Int) : List Int := dvs p (lfN p cs) cs
theorem lfQ_len (p : Int) (cs : List Int) : (lfQ p cs).length = cs.length := dvs_len ..
theorem exps_ne {p : Int} {cs : List Int} (h : NzL cs) : exps p cs ≠ [] := by
  obtain ⟨c, hc, n⟩ := h.mem
  intro z
  unfold exps at z
  rw [List.map_eq_nil_iff] at z
  have : c ∈ cs.filter fun c => decide (c ≠ 0) := List.mem_filter.mpr ⟨hc, decide_eq_true n⟩
  rw [z] at this; cases this
theorem exps_mem {p x : Int} {cs : List Int} (h : x ∈ exps p cs) : ∃ c ∈ cs, c ≠ 0 ∧ x = vp p c := by
  unfold exps at h
  obtain ⟨c, hc, rfl⟩ := List.mem_map.mp h
  obtain ⟨h1, h2⟩ := List.mem_filter.mp hc
  exact ⟨c, h1, of_decide_eq_true h2, rfl⟩
theorem vp_nn {p c : Int} (hp : 2 ≤ p) (h : c ≠ 0) : 0 ≤ vp p c := by
  obtain ⟨m, v, e, hm, hv⟩ := vp_spec hp h
  rw [hv]; omega
theorem lfN_eq {p : Int} {cs : List Int} (hp : 2 ≤ p) (h : NzL cs) : leastI (exps p cs) = lfN p cs := by
  obtain ⟨c, hc, n, e⟩ := exps_mem (leastI_mem (exps_ne (p := p) h))
  have := vp_nn hp n
  unfold lfN; omega
theorem lfN_dvd {p : Int} {cs : List Int} (hp : 2 ≤ p) (h : NzL cs) : ∀ c ∈ cs, c = p ^ lfN p cs * (c / p ^ lfN p cs) := by
  intro c hc
  have P : p ^ lfN p cs ≠ 0 := Int.pow_ne_zero (by omega)
  by_cases z : c = 0
  · subst z; simp
  · obtain ⟨m, v, e, hm, hv⟩ := vp_spec hp z
    have l : leastI (exps p cs) ≤ vp p c := leastI_le _ (by
      unfold exps
      exact List.mem_map.mpr ⟨c, List.mem_filter.mpr ⟨hc, decide_eq_true z⟩, rfl⟩)
    rw [lfN_eq hp h, hv] at l
    obtain ⟨k, rfl⟩ : ∃ k, v = lfN p cs + k := ⟨v - lfN p cs, by omega⟩
    rw [Int.mul_ediv_cancel']
    exact ⟨m * p ^ k, by rw [e, Int.pow_add]; grind⟩
theorem lfQ_eq {p : Int} {cs : List Int} (hp : 2 ≤ p) (h : NzL cs) : cs = (lfQ p cs).map fun q => p ^ lfN p cs * q := by
  unfold lfQ dvs
  rw [List.map_map]
  conv => lhs; rw [← List.map_id cs]
  exact List.map_congr_left fun c hc => lfN_dvd hp h c hc
theorem lfQ_no {p : Int} {cs : List Int} (hp : 2 ≤ p) (h : NzL cs) : ∃ q ∈ lfQ p cs, q % p ≠ 0 := by
  obtain ⟨c, hc, n, e⟩ := exps_mem (leastI_mem (exps_ne (p := p) h))
  obtain ⟨m, v, e2, hm, hv⟩ := vp_spec hp n
  have l := lfN_eq hp h
  refine ⟨c / p ^ lfN p cs, List.mem_map.mpr ⟨c, hc, rfl⟩, ?_⟩
  have : v = lfN p cs := by rw [hv] at e; omega
  rw [← this, e2, Int.mul_ediv_cancel _ (Int.pow_ne_zero (by omega))]
  exact hm
theorem lfQ_nz {p : Int} {cs : List Int} (hp : 2 ≤ p) (h : NzL cs) : NzL (lfQ p cs) := by
  have e := lfQ_eq hp h
  exact nz_of_map (k := p ^ lfN p cs) (by rw [← e]; exact h)
theorem lfQ_bd {p : Int} {cs : List Int} {m : Nat} (h : ∀ c ∈ cs, c.natAbs < 2 ^ m) : ∀ c ∈ lfQ p cs, c.natAbs < 2 ^ m := by
  intro q hq
  unfold lfQ dvs at hq
  obtain ⟨c, hc, rfl⟩ := List.mem_map.mp hq
  exact Nat.lt_of_le_of_lt (Int.natAbs_ediv_le_natAbs c _) (h c hc)
theorem ev_lfQ {p : Int} {cs : List Int} (hp : 2 ≤ p) (h : NzL cs) (z : Int) : ev cs z = p ^ lfN p cs * ev (lfQ p cs) z := by
  conv => lhs; rw [lfQ_eq hp h]
  exact ev_mul _ z _
/-- seen from one figure more -/
noncomputable def on1 (p : Int) (cs : List Int) (d : Int) : List Int := scl p 1 (shf d (cs.length - 1) cs)
theorem on1_len (p : Int) (cs : List Int) (d : Int) : (on1 p cs d).length = cs.length := by unfold on1; rw [scl_len, shf_len]
theorem on1_nz {p : Int} {cs : List Int} (hp : 2 ≤ p) (h : NzL cs) (d : Int) : NzL (on1 p cs d) := scl_nz (by omega) _ 1 (by omega) (shf_nz d _ cs h)
theorem on1_bd {p : Int} {cs : List Int} {d : Int} {m : Nat} (hp : p.natAbs < 127) (hd : d.natAbs < 127) (hl : cs.length ≤ 9) (h : ∀ c ∈ cs, c.natAbs < 2 ^ m) : ∀ c ∈ on1 p cs d, c.natAbs < 2 ^ (m + 600) := by
  intro c hc
  have b1 := shf_bd (d := d) (by omega) (cs.length - 1) m cs 9 hl h
  have b2 := scl_bd (p := p) (by omega) _ 1 _ 1 (by decide) b1 c hc
  refine Nat.lt_of_lt_of_le b2 (Nat.pow_le_pow_right (by omega) ?_)
  rw [shf_len]
  have : 7 * 9 * (cs.length - 1) ≤ 7 * 9 * 8 := Nat.mul_le_mul_left _ (by omega)
  omega
/-- seen from a stem -/
noncomputable def seeL (p : Int) : Nat × List Int → List Int → Nat × List Int
  | s, [] => s
  | s, d :: ds => seeL p (s.1 + lfN p (on1 p s.2 d), lfQ p (on1 p s.2 d)) ds
noncomputable def see (p : Int) (cs : List Int) (ds : List Int) : Nat × List Int := seeL p (lfN p cs, lfQ p cs) ds
/-- a stem's sum -/
def sm (p : Int) : List Int → Int
  | [] => 0
  | d :: ds => d + p * sm p ds
structure Seen (p : Int) (cs : List Int) (s : Int) (k : Nat) (t : Nat × List Int) : Prop where
  ev : ∀ z, ev cs (s + p ^ k * z) = p ^ t.1 * ev t.2 z
  nz : NzL t.2
  no : ∃ q ∈ t.2, q % p ≠ 0
  len : t.2.length = cs.length
theorem Seen.start {p : Int} {cs : List Int} (hp : 2 ≤ p) (h : NzL cs) : Seen p cs 0 0 (lfN p cs, lfQ p cs) :=
  ⟨fun z => by rw [Int.zero_add, Int.pow_zero, Int.one_mul]; exact ev_lfQ hp h z, lfQ_nz hp h, lfQ_no hp h, lfQ_len ..⟩
end PM
namespace PM
open PySem PySem.Spec L2 PL
open PyProof.Rows hiding St
end PM
set_option Elab.async false
set_option linter.all false
set_option maxRecDepth 100000
set_option autoImplicit false
set_option exponentiation.threshold 20000
namespace PM
open PySem PySem.Spec L2 PL
open PyProof.Rows hiding St
end PM
set_option Elab.async false
set_option linter.all false
set_option maxRecDepth 100000
set_option autoImplicit false
set_option exponentiation.threshold 20000
namespace PM
open PySem PySem.Spec L2 PL
open PyProof.Rows hiding St
theorem last_at0 {l : List Int} (h : l ≠ []) : l.getLast? = some (at0 l (l.length - 1)) := by
  have : 0 < l.length := List.length_pos_iff.mpr h
  unfold at0
  rw [List.getLast?_eq_getElem?, List.getD_eq_getElem?_getD, List.getElem?_eq_getElem (by omega)]
  rfl
theorem NzL.at {l : List Int} (h : NzL l) : at0 l (l.length - 1) ≠ 0 := by
  obtain ⟨x, e, n⟩ := h
  rw [last_at0 (fun z => by rw [z] at e; cases e)] at e
  cases e; exact n
theorem PolyI.nz {cs : List Int} (h : PolyI cs) : NzL cs := by
  have ne : cs ≠ [] := fun z => by have := h.1; rw [z] at this; simp at this
  exact ⟨_, last_at0 ne, fun z => h.2.2 (by rw [last_at0 ne, z])⟩
end PM
namespace PM
open PySem PySem.Spec L2 PL
open PyProof.Rows hiding St
end PM
namespace PM
open PySem PySem.Spec L2 PL
open PyProof.Rows hiding St
end PM
set_option Elab.async false
set_option linter.all false
set_option maxRecDepth 100000
set_option autoImplicit false
namespace PM
open PySem PySem.Spec L2 PL
open PyProof.Rows hiding St
end PM
set_option Elab.async false
set_option linter.all false
set_option maxRecDepth 100000
set_option autoImplicit false
set_option exponentiation.threshold 20000
namespace PM
open PySem PySem.Spec L2 PL
open PyProof.Rows hiding St
def slo (as : List Int) : List Int := (slp 0 as).drop 1
structure Row where
  stem : List Int
  word : Str
  num : Int
noncomputable def nxt (p : Int) (t : Nat × List Int) (d : Int) : Nat × List Int := (t.1 + lfN p (on1 p t.2 d), lfQ p (on1 p t.2 d))
/-- what stands at a stem of the tree -/
structure At (m : Nat) (t : Nat × List Int) : Prop where
  nz : NzL t.2
  l2 : 2 ≤ t.2.length
  l9 : t.2.length ≤ 9
  bd : ∀ c ∈ t.2, c.natAbs < 2 ^ m
theorem At.next {p d : Int} {m : Nat} {t : Nat × List Int} (h : At m t) (hp : 2 ≤ p ∧ p < 127) (hd : d.natAbs < 127) : At (m + 600) (nxt p t d) :=
  ⟨lfQ_nz (by omega) (on1_nz (by omega) h.nz d), by show 2 ≤ (lfQ p _).length; rw [lfQ_len, on1_len]; exact h.l2, by show (lfQ p _).length ≤ 9; rw [lfQ_len, on1_len]; exact h.l9, lfQ_bd (on1_bd (by omega) hd h.l9 h.bd)⟩
end PM
set_option Elab.async false
set_option linter.all false
set_option maxRecDepth 100000
set_option autoImplicit false
namespace PM
open PL (leastI leastI_mem leastI_le)
end PM
set_option Elab.async false
set_option linter.all false
set_option maxRecDepth 100000
set_option autoImplicit false
namespace PM
open PL (leastI leastI_mem leastI_le)
def Cg (p : Int) : List Int → List Int → Prop
  | [], [] => True
  | a :: as, b :: bs => p ∣ a - b ∧ Cg p as bs
  | _, _ => False
theorem Cg.refl (p : Int) : ∀ l : List Int, Cg p l l
  | [] => trivial
  | a :: l => ⟨by rw [Int.sub_self]; exact ⟨0, by simp⟩, Cg.refl p l⟩
/-- the derivative -/
def dv : List Int → Int → Int
  | [], _ => 0
  | _ :: r, x => ev r x + x * dv r x
def On (p : Int) (qs : List Int) (d : Int) : Prop := ev qs d % p = 0 ∧ ev (slo qs) d % p = 0
/-- the way to a stem leads on -/
def Pth (p : Int) (cs : List Int) (s : List Int) : Prop := ∀ a e b, s = a ++ e :: b → (0 ≤ e ∧ e < p) ∧ On p (see p cs a).2 e
theorem Pth.nil {p : Int} {cs : List Int} : Pth p cs [] := fun a e b h => by
  have := congrArg List.length h
  simp at this
end PM
set_option Elab.async false
set_option linter.all false
set_option maxRecDepth 100000
set_option autoImplicit false
set_option exponentiation.threshold 20000
namespace PM
open PySem PySem.Spec L2 PL
open PyProof.Rows hiding St
end PM
set_option Elab.async false
set_option linter.all false
set_option maxRecDepth 100000
set_option autoImplicit false
set_option exponentiation.threshold 20000
namespace PM
open PySem PySem.Spec L2 PL
open PyProof.Rows hiding St
def hit (p z : Int) (r : Row) : Bool := (z - sm p r.stem) % p ^ r.stem.length == 0
theorem ok_stem (l : List Int) : okD 30 (.tup (l.map PV.int)) = true := by rw [okD_tup]; simp
end PM
set_option Elab.async false
set_option linter.all false
set_option maxRecDepth 100000
set_option autoImplicit false
set_option exponentiation.threshold 20000
namespace PM
open PySem PySem.Spec L2 PL
open PyProof.Rows hiding St
end PM
set_option Elab.async false
set_option linter.all false
set_option maxRecDepth 100000
set_option autoImplicit false
set_option exponentiation.threshold 20000
namespace PM
open PySem PySem.Spec L2 PL
open PyProof.Rows hiding St
def sq2 (ds : List Int) : Bool := (ds.drop 1).take 2 == ([0, 0] : List Int).take (ds.length - 1)
theorem sl2 (ds : List Int) (h : ds ≠ []) : ∃ a b : PV, slP (.tup (ds.map PV.int)) (some 1) (some 3) = .ok a ∧ slP (.tup [.int 0, .int 0]) none (some ((ds.length : Int) - 1)) = .ok b ∧ neP a b = .ok (.bl (!sq2 ds)) ∧ eqP a b = .ok (.bl (sq2 ds)) := by
  have l1 : 1 ≤ ds.length := List.length_pos_iff.mpr h
  have e1 : slP (.tup (ds.map PV.int)) (some 1) (some 3) = .ok (.tup (((ds.drop 1).take 2).map PV.int)) := by
    rw [slP_t, cut_both _ _ _ (by omega) (by omega), ← List.map_drop, ← List.map_take]; rfl
  have e2' : slP (.tup [.int 0, .int 0]) none (some ((ds.length : Int) - 1)) = .ok (.tup ((([0, 0] : List Int).take (ds.length - 1)).map PV.int)) := by
    rw [slP_t, cut_take _ _ (by omega), show ((ds.length : Int) - 1).toNat = ds.length - 1 by omega, List.map_take]; rfl
  refine ⟨_, _, e1, e2', ?_, ?_⟩
  · rw [neP_ok (ok_stem _) (ok_stem _), eqV_tt, eqVs_ints]; rfl
  · rw [eqP_ok (ok_stem _) (ok_stem _), eqV_tt, eqVs_ints]; rfl
end PM
set_option Elab.async false
set_option linter.all false
set_option maxRecDepth 100000
set_option autoImplicit false
set_option exponentiation.threshold 20000
namespace PM
open PySem PySem.Spec L2 PL
open PyProof.Rows hiding St
end PM
set_option Elab.async false
set_option linter.all false
set_option maxRecDepth 100000
set_option autoImplicit false
set_option exponentiation.threshold 20000
namespace PM
open PySem PySem.Spec L2 PL
open PyProof.Rows hiding St
/-- a fraction is alike, up to a stem's length, to its sum -/
def ins (p : Int) (r : Row) (q : Int × Int) : Bool := (q.1 - q.2 * sm p r.stem) % p ^ r.stem.length == 0
end PM
set_option Elab.async false
set_option linter.all false
set_option maxRecDepth 100000
set_option autoImplicit false
set_option exponentiation.threshold 20000
namespace PM
open PySem PySem.Spec L2 PL
open PyProof.Rows hiding St
end PM
set_option Elab.async false
set_option linter.all false
set_option maxRecDepth 100000
set_option autoImplicit false
namespace PM
open PySem PySem.Spec L2 PL
open PyProof.Rows hiding St
noncomputable def D_number_of : Rho → Out := (bSeq (sSet 1 (eV 0)) (bSeq (sIf (tB1 (eM stwP (eVo 0) (eC (.str "-")))) (bSeq (sSet 1 (eSl slP (eVo 0) (oSome (eC (.int 1))) oNone)) bNil) bNil) (bSeq (sIf (tOr' (tB1 (e2 eqP (eVo 1) (eC (.str "")))) (tOr' (tB1 (e2 gtP (eD lenP (aCons (eVo 1) aNil)) (eC (.int 31)))) (tB1 (eD anyP (aCons (eLc [2] (iStrP (eVo 1)) (gN 2) cYes (e2 notInS (eVo 2) (eC (.str "0123456789")))) aNil))))) (bSeq (sRaise "NoText") bNil) bNil) (bSeq (sIf (tAn (tB1 (e2 eqP (e2 ixP (eVo 1) (eC (.int 0))) (eC (.str "0")))) (tB1 (e2 neP (eVo 0) (eC (.str "0"))))) (bSeq (sRaise "NoText") bNil) bNil) (bSeq (sRet (eD intS (aCons (eVo 0) aNil))) bNil)))))
noncomputable def F_number_of : List PV → R PV := runF 3 D_number_of
end PM
set_option Elab.async false
set_option linter.all false
set_option maxRecDepth 100000
set_option autoImplicit false
set_option exponentiation.threshold 20000
namespace PM
open PySem PySem.Spec L2 PL TL
open PyProof.Rows hiding St
def tx (l : List Nat) : Str := ⟨l.toArray⟩
theorem tl_tx (l : List Nat) : tl (tx l) = l := rfl
theorem tx_tl (x : Str) : tx (tl x) = x := mk_tl x
theorem tx_len (l : List Nat) : (tx l).length = l.length := by rw [len_tl, tl_tx]
theorem tx_app (a b : List Nat) : tx a ++ tx b = tx (a ++ b) := ext_tl (by rw [tl_append]; rfl)
theorem tx_inj {a b : List Nat} (h : tx a = tx b) : a = b := congrArg tl h
theorem tx_eq (a b : List Nat) : (tx a == tx b) = decide (a = b) := by
  by_cases h : a = b
  · subst h; simp
  · rw [decide_eq_false h]
    exact beq_eq_false_iff_ne.mpr fun z => h (tx_inj z)
/-- signs of the lower kind -/
def Asc (l : List Nat) : Prop := ∀ c ∈ l, c < 128
theorem Asc.app {a b : List Nat} (h1 : Asc a) (h2 : Asc b) : Asc (a ++ b) := fun c h => (List.mem_append.mp h).elim (h1 c) (h2 c)
theorem Asc.take {a : List Nat} (h : Asc a) (n : Nat) : Asc (a.take n) := fun c z => h c ((List.take_sublist _ _).subset z)
theorem Asc.drop {a : List Nat} (h : Asc a) (n : Nat) : Asc (a.drop n) := fun c z => h c ((List.drop_sublist _ _).subset z)
theorem Asc.cons {c : Nat} {a : List Nat} (h : c < 128) (h2 : Asc a) : Asc (c :: a) := fun d z => (List.mem_cons.mp z).elim (fun e => e ▸ h) (h2 d)
theorem Asc.nil : Asc [] := fun _ z => nomatch z
theorem strOk_tx {l : List Nat} (h : Asc l) : PySem.PyData.strOk (tx l) = true := by
  unfold PyData.strOk
  rw [Array.all_eq_true_iff_forall_mem]
  intro c hc
  have := h c (by simpa [tx] using hc)
  simp; omega
theorem eqP_tx {a b : List Nat} (ha : Asc a) (hb : Asc b) : eqP (.str (tx a)) (.str (tx b)) = .ok (.bl (decide (a = b))) := by
  rw [eqP_ok (by simp [okD, strOk_tx ha]) (by simp [okD, strOk_tx hb]), eqV', tx_eq]
theorem neP_tx {a b : List Nat} (ha : Asc a) (hb : Asc b) : neP (.str (tx a)) (.str (tx b)) = .ok (.bl (!decide (a = b))) := by
  rw [neP_ok (by simp [okD, strOk_tx ha]) (by simp [okD, strOk_tx hb]), eqV', tx_eq]
theorem lenP_tx {l : List Nat} (h : l.length ≤ 1000000) : lenP [.str (tx l)] = .ok (.int l.length) := by
  unfold lenP
  dsimp only
  rw [if_pos (by rw [tx_len]; show l.length ≤ 2 ^ 24; omega), tx_len]
theorem addP_tx {a b : List Nat} (h : a.length + b.length ≤ 1000000) : addP (.str (tx a)) (.str (tx b)) = .ok (.str (tx (a ++ b))) := by
  unfold addP
  dsimp only
  rw [if_pos (by rw [tx_len, tx_len]; show _ ≤ 2 ^ 24; omega), tx_app]
theorem slP_tx {l : List Nat} (lo hi : Option Int) (h : l.length ≤ 1000000) : slP (.str (tx l)) lo hi = .ok (.str (tx (cutG l lo hi))) := by
  unfold slP
  dsimp only
  rw [if_pos (by rw [tx_len]; show _ ≤ 2 ^ 24; omega)]
  refine congrArg (fun s => R.ok (PV.str s)) (ext_tl ?_)
  unfold cutS cutG
  rw [tx_len]
  rfl
theorem ixP_tx {l : List Nat} {k : Int} {c : Nat} (h0 : 0 ≤ k) (hc : l[k.toNat]? = some c) (h : l.length ≤ 1000000) : ixP (.str (tx l)) (.int k) = .ok (.str (tx [c])) := by
  unfold ixP
  dsimp only
  rw [if_pos (by rw [tx_len]; show _ ≤ 2 ^ 24; omega), show (tx l).cps.toList = l from rfl, atI_at h0, hc]
  rfl
theorem stwP_tx (a b : List Nat) : stwP (.str (tx a)) (.str (tx b)) = .ok (.bl (decide (b.length ≤ a.length) && decide (a.take b.length = b))) := by
  unfold stwP Txt.startswith
  dsimp only
  rw [tx_len, tx_len, PySem.StrLaws.subAt_eq, tx_len, Nat.zero_add]
  refine congrArg (fun b => R.ok (PV.bl b)) ?_
  congr 1
  rw [show (tx a).cps.toList = a from rfl, show (tx b).cps.toList = b from rfl, List.drop_zero]
  by_cases h : a.take b.length = b
  · rw [h]; simp
  · rw [decide_eq_false h]; exact beq_eq_false_iff_ne.mpr h
theorem inS_tx (c : Nat) (l : List Nat) : inS (.str (tx [c])) (.str (tx l)) = .ok (.bl (decide (c ∈ l))) := by
  unfold inS; rfl
theorem notInS_tx (c : Nat) (l : List Nat) : notInS (.str (tx [c])) (.str (tx l)) = .ok (.bl (!decide (c ∈ l))) := by
  unfold notInS; rfl
theorem signs_tx (l : List Nat) : signsP (tx l) = l.map fun c => PV.str (tx [c]) := rfl
@[simp] theorem iStrP_eq {f : Rho → R PV} {ρ : Rho} : iStrP f ρ = (f ρ).bind fun p => match p with
  | .str x => .ok (signsP x)
  | _ => .stuck := nr rfl
@[simp] theorem eM_eq {g : PV → PV → R PV} {f h : Rho → R PV} {ρ : Rho} : eM g f h ρ = (f ρ).bind fun p => match p with
  | .str _ => (h ρ).bind fun q => g p q
  | _ => .stuck := nr rfl
theorem s_digits : Str.ofString "0123456789" = tx [48, 49, 50, 51, 52, 53, 54, 55, 56, 57] := by decide +kernel
theorem s_dash : Str.ofString "-" = tx [45] := by decide +kernel
theorem s_empty : Str.ofString "" = tx [] := by decide +kernel
theorem s_zero : Str.ofString "0" = tx [48] := by decide +kernel
theorem s_blank : Str.ofString " " = tx [32] := by decide +kernel
theorem s_colon : Str.ofString ":" = tx [58] := by decide +kernel
theorem s_bcolon : Str.ofString " :" = tx [32, 58] := by decide +kernel
def numT (i : Int) : List Nat := if i < 0 then 45 :: numL i.natAbs else numL i.natAbs
theorem s_num (i : Int) : Str.ofString (toString i) = tx (numT i) := by
  refine ext_tl ?_
  rw [tl_tx]
  unfold numT
  cases i with
  | ofNat n => rw [if_neg (by simp)]; exact tl_num n
  | negSucc n =>
    rw [if_pos (Int.negSucc_lt_zero n)]
    have e : toString (Int.negSucc n) = "-" ++ toString (((n + 1 : Nat) : Nat) : Int) := rfl
    rw [e, tl_ofString, String.toList_append, List.map_append, ← tl_ofString, ← tl_ofString, tl_num]
    rfl
theorem strP_num {i : Int} (h : i.natAbs < 2 ^ 1900) : strP [.int i] = .ok (.str (tx (numT i))) := by
  unfold strP
  have : i.natAbs.log2 < 1920 := by
    by_cases z : i.natAbs = 0
    · rw [z]; decide
    · exact (Nat.log2_lt z).mpr (Nat.lt_of_lt_of_le h (Nat.pow_le_pow_right (by omega) (by omega)))
  dsimp only
  rw [if_pos this]
  exact congrArg (fun s => R.ok (PV.str s)) (s_num i)
def isDig (c : Nat) : Bool := decide (48 ≤ c ∧ c ≤ 57)
/-- the figures of a word -/
def figs (l : List Nat) : List Nat := if l.head? = some 45 then l.tail else l
def numOk (l : List Nat) : Bool := !(figs l).isEmpty && decide ((figs l).length ≤ 31) && (figs l).all isDig && !(decide ((figs l).head? = some 48) && !decide (l = [48]))
def numVal (l : List Nat) : Int := if l.head? = some 45 then -((NumText.digitsVal (figs l) : Nat) : Int) else ((NumText.digitsVal (figs l) : Nat) : Int)
theorem isDig_mem (c : Nat) : isDig c = decide (c ∈ [48, 49, 50, 51, 52, 53, 54, 55, 56, 57]) := by
  unfold isDig
  refine decide_eq_decide.mpr ?_
  simp
  omega
theorem figs_sub (l : List Nat) : figs l = l ∨ figs l = l.drop 1 := by
  unfold figs
  split
  · right; exact List.drop_one.symm
  · left; rfl
theorem intS_val {l : List Nat} (h : numOk l = true) : intS [.str (tx l)] = .ok (.int (numVal l)) := by
  unfold numOk at h
  simp only [Bool.and_eq_true, decide_eq_true_eq] at h
  obtain ⟨⟨⟨h1, h2⟩, h3⟩, _⟩ := h
  have hd : NumText.AllDigits (figs l) := fun c hc => by
    have := List.all_eq_true.mp h3 c hc
    unfold isDig at this
    simpa using this
  have hne : figs l ≠ [] := fun z => by rw [z] at h1; cases h1
  have e : PySem.intText? (tx l) = some (numVal l) := by
    unfold numVal
    by_cases hh : l.head? = some 45
    · rw [if_pos hh]
      obtain ⟨r, rfl⟩ : ∃ r, l = 45 :: r := by
        cases l with
        | nil => cases hh
        | cons c r => simp at hh; subst hh; exact ⟨r, rfl⟩
      have ef : figs (45 :: r) = r := rfl
      rw [ef] at hd hne h2 ⊢
      exact PySem.intText_neg (x := tx (45 :: r)) rfl hd hne (by rw [tx_len, List.length_cons]; omega)
    · rw [if_neg hh]
      have ef : figs l = l := by unfold figs; rw [if_neg hh]
      rw [ef] at hd hne h2 ⊢
      exact PySem.intText_digits (x := tx l) hd hne (by rw [tx_len]; omega)
  have hl : (tx l).length ≤ 640 := by
    rw [tx_len]
    rcases figs_sub l with z | z
    · rw [z] at h2; omega
    · rw [z, List.length_drop] at h2; omega
  unfold intS
  dsimp only
  rw [e]
  dsimp only
  rw [if_pos hl]
theorem Asc.figs {l : List Nat} (h : Asc l) : Asc (figs l) := by
  rcases figs_sub l with z | z <;> rw [z]
  · exact h
  · exact h.drop 1
theorem figs_len (l : List Nat) : (figs l).length ≤ l.length := by
  rcases figs_sub l with z | z <;> rw [z]
  · exact Nat.le_refl _
  · rw [List.length_drop]; omega
theorem f_number_of (l : List Nat) (ha : Asc l) (hl : l.length ≤ 100000) : F_number_of [.str (tx l)] = if numOk l = true then .ok (.int (numVal l)) else .exc "NoText" := by
  refine (runF_eq (n := 3) (u := D_number_of)).trans ?_
  show (D_number_of [.val (.str (tx l)), .un, .un]).res = _
  have af := ha.figs
  have lf := figs_len l
  have e1 : stwP (.str (tx l)) (.str (Str.ofString "-")) = .ok (.bl (decide (l.head? = some 45))) := by
    rw [s_dash, stwP_tx]
    refine congrArg (fun b => R.ok (PV.bl b)) ?_
    cases l with
    | nil => rfl
    | cons c r => simp
  have q2 : slP (.str (tx l)) (some 1) none = .ok (.str (tx (l.drop 1))) := by rw [slP_tx _ _ (by omega), cut_drop _ _ (by omega)]; rfl
  have e3 : eqP (.str (tx (figs l))) (.str (Str.ofString "")) = .ok (.bl (figs l).isEmpty) := by
    rw [s_empty, eqP_tx af Asc.nil]
    cases figs l <;> simp
  have e4 := lenP_tx (l := figs l) (by omega)
  have e5 : gtP (.int ((figs l).length : Int)) (.int 31) = .ok (.bl (!decide ((figs l).length ≤ 31))) := by
    rw [gtP_ii]
    refine congrArg (fun b => R.ok (PV.bl b)) ?_
    by_cases h : (figs l).length ≤ 31
    · rw [decide_eq_true h, decide_eq_false (by omega)]; rfl
    · rw [decide_eq_false h, decide_eq_true (by omega)]; rfl
  have lc : lcGo (gN 2) cYes (e2 notInS (eVo 2) (eC (.str (Str.ofString "0123456789")))) [.val (.str (tx l)), .val (.str (tx (figs l))), .un] (signsP (tx (figs l))) = .ok (((figs l).map fun c => !isDig c).map PV.bl) := by
    rw [signs_tx]
    rw [lcGo_map (fun q => match q with | .str z => .bl (match tl z with | [c] => !isDig c | _ => false) | q => q) _ fun q hq => ?_, List.map_map, List.map_map]
    · rfl
    · obtain ⟨c, _, rfl⟩ := List.mem_map.mp hq
      refine ⟨_, rfl, ?_⟩
      have : notInS (.str (tx [c])) (.str (Str.ofString "0123456789")) = .ok (.bl (!isDig c)) := by rw [s_digits, notInS_tx, isDig_mem]
      simpa [tl_tx] using this
  have e6 := eLc_ok (vs := [2]) (it := iStrP (eVo 1)) (ρ := [.val (.str (tx l)), .val (.str (tx (figs l))), .un]) rfl (by simp) (by rw [signs_tx, List.length_map]; omega) lc
  have e7 : ((figs l).map fun c => !isDig c).any id = !((figs l).all isDig) := by
    rw [List.any_map, List.not_all_eq_any_not]
    rfl
  have e8 := anyP_bl ((figs l).map fun c => !isDig c)
  rw [e7] at e8
  obtain ⟨bs, hbs⟩ : ∃ bs, bs = (figs l).map fun c => !isDig c := ⟨_, rfl⟩
  rw [← hbs] at e6 e8
  -- the first two steps
  have s12 : ∀ {r : R PV} (k : Rho → Out), (k [.val (.str (tx l)), .val (.str (tx (figs l))), .un]).res = r → (bSeq (sSet 1 (eV 0)) (bSeq (sIf (tB1 (eM stwP (eVo 0) (eC (.str "-")))) (bSeq (sSet 1 (eSl slP (eVo 0) (oSome (eC (.int 1))) oNone)) bNil) bNil) k) [.val (.str (tx l)), .un, .un]).res = r := fun {r} k g => by
    refine stp (.str (tx l)) (by simp) ?_
    simp only [List.set_cons_succ, List.set_cons_zero]
    refine stpW (decide (l.head? = some 45)) (.str (tx (l.drop 1))) (.str (tx l)) (.str (tx (figs l))) (by simp [e1]) (fun _ => by simp [q2]) rfl ?_ ?_
    · unfold figs
      by_cases h : l.head? = some 45
      · rw [if_pos h, decide_eq_true h, if_pos rfl, List.drop_one]
      · rw [if_neg h, decide_eq_false h]; rfl
    · simp only [List.set_cons_succ, List.set_cons_zero]
      exact g
  unfold D_number_of
  refine s12 _ ?_
  by_cases h1 : (figs l).isEmpty = false ∧ (figs l).length ≤ 31 ∧ (figs l).all isDig = true
  · obtain ⟨h1, h2, h3⟩ := h1
    refine skp (by simp [e3, h1, e4, e5, h2, e6, e8, h3]) ?_
    obtain ⟨c, r, hc⟩ : ∃ c r, figs l = c :: r := by
      cases hf : figs l with
      | nil => rw [hf] at h1; cases h1
      | cons c r => exact ⟨c, r, rfl⟩
    have e9 : ixP (.str (tx (figs l))) (.int 0) = .ok (.str (tx [c])) := ixP_tx (by omega) (by rw [hc]; rfl) (by omega)
    have e10 : eqP (.str (tx [c])) (.str (Str.ofString "0")) = .ok (.bl (decide (c = 48))) := by
      rw [s_zero, eqP_tx (fun d hd => af d (by rw [hc]; rw [List.mem_singleton.mp hd]; exact List.mem_cons_self)) (by intro d hd; rw [List.mem_singleton.mp hd]; omega)]
      simp
    have e11 : neP (.str (tx l)) (.str (Str.ofString "0")) = .ok (.bl (!decide (l = [48]))) := by
      rw [s_zero, neP_tx ha (by intro d hd; rw [List.mem_singleton.mp hd]; omega)]
    have hd : (figs l).head? = some 48 ↔ c = 48 := by rw [hc]; simp
    by_cases h4 : c = 48 ∧ ¬ l = [48]
    · have no : numOk l = false := by
        unfold numOk
        rw [decide_eq_true (hd.mpr h4.1), decide_eq_false h4.2]; simp
      rw [no, if_neg Bool.false_ne_true]
      rw [decide_eq_true h4.1] at e10
      rw [decide_eq_false h4.2] at e11
      refine ifT (by simp [e9, e10, e11]) ?_
      simp
    · have yes : numOk l = true := by
        unfold numOk
        rw [h1, decide_eq_true h2, h3]
        by_cases h5 : c = 48
        · rw [decide_eq_true (hd.mpr h5), decide_eq_true (Classical.byContradiction fun z => h4 ⟨h5, z⟩)]; rfl
        · rw [decide_eq_false (fun z => h5 (hd.mp z))]; rfl
      rw [yes, if_pos rfl]
      have i := intS_val yes
      refine skp ?_ ?_
      · by_cases h5 : c = 48
        · have h6 : l = [48] := Classical.byContradiction fun z => h4 ⟨h5, z⟩
          have e11' : neP (.str (tx l)) (.str (Str.ofString "0")) = .ok (.bl false) := by rw [e11, decide_eq_true h6]; rfl
          have e10' : eqP (.str (tx [c])) (.str (Str.ofString "0")) = .ok (.bl true) := by rw [e10, decide_eq_true h5]
          simp [e9, e10', e11']
        · have e10' : eqP (.str (tx [c])) (.str (Str.ofString "0")) = .ok (.bl false) := by rw [e10, decide_eq_false h5]
          simp [e9, e10']
      · simp [i]
  · have no : numOk l = false := by
      unfold numOk
      by_cases a : (figs l).isEmpty = false
      · by_cases b : (figs l).length ≤ 31
        · have c : (figs l).all isDig = false := by
            cases h : (figs l).all isDig with
            | false => rfl
            | true => exact absurd ⟨a, b, h⟩ h1
          rw [c]; simp
        · rw [decide_eq_false b]; simp
      · have : (figs l).isEmpty = true := by simpa using a
        rw [this]; simp
    rw [no, if_neg Bool.false_ne_true]
    refine ifT ?_ (by simp)
    by_cases a : (figs l).isEmpty = true
    · rw [a] at e3
      simp [e3]
    · have a' : (figs l).isEmpty = false := by simpa using a
      rw [a'] at e3
      by_cases b : (figs l).length ≤ 31
      · have c : (figs l).all isDig = false := by
          cases h : (figs l).all isDig with
          | false => rfl
          | true => exact absurd ⟨a', b, h⟩ h1
        rw [decide_eq_true b] at e5
        rw [c] at e8
        simp only [Bool.not_true, Bool.not_false] at e5 e8
        simp [e3, e4, e5, e6, e8]
      · rw [decide_eq_false b] at e5
        simp only [Bool.not_true, Bool.not_false] at e5
        simp [e3, e4, e5]
theorem numT_free {s : Nat} (i : Int) (h : s < 45 ∨ s = 46 ∨ s = 47 ∨ 57 < s) : s ∉ numT i := by
  have := numL_free (n := i.natAbs) (s := s)
  unfold numT
  by_cases z : s < 48 ∨ 57 < s
  · split
    · intro hm
      rcases List.mem_cons.mp hm with e | e
      · omega
      · exact this z e
    · exact this z
  · omega
theorem numT_asc (i : Int) : Asc (numT i) := fun c hc => by
  apply Classical.byContradiction
  intro z
  exact numT_free (s := c) i (by omega) hc
theorem numT_len (i : Int) {k : Nat} (hk : 0 < k) (h : i.natAbs < 10 ^ k) : (numT i).length ≤ k + 1 := by
  have := numL_len hk h
  unfold numT
  split
  · rw [List.length_cons]; omega
  · omega
end PM
set_option Elab.async false
set_option linter.all false
set_option maxRecDepth 100000
set_option autoImplicit false
noncomputable section
namespace PH
open PySem PySem.Spec L2 PL
open PyProof.Rows hiding St
abbrev AlT : Type := Bool × List He.FnW
/-- two names for two maps, so that the kernel does not compare what they map by -/
def mapO (K : PySem.W.Frag) (fn : List He.DefD) : List He.FnW := fn.rec [] fun d _ r => He.fnW K d.at_ :: r
def mapV (fn : List He.DefD) : List He.FnW := fn.foldr (fun d r => d.val :: r) []
theorem mapO_eq (K : PySem.W.Frag) : ∀ fn : List He.DefD, mapO K fn = fn.map fun d => He.fnW K d.at_
  | [] => rfl
  | d :: r => congrArg (He.fnW K d.at_ :: ·) (mapO_eq K r)
theorem mapV_eq : ∀ fn : List He.DefD, mapV fn = fn.map He.DefD.val
  | [] => rfl
  | d :: r => congrArg (d.val :: ·) (mapV_eq r)
def obsT (t : PySem.W.Frag → List (List Bool)) (fn : List He.DefD) (K : PySem.W.Frag) : AlT := (((t K).all fun l => l.all id) && fn.all fun d => d.ok K, mapO K fn)
def valT (fn : List He.DefD) : AlT := (true, mapV fn)
def SaysT (t : PySem.W.Frag → List (List Bool)) (fn : List He.DefD) (K : PySem.W.Frag) : Prop := obsT t fn K = valT fn
/-- what the module's names stand for (what is no def ahead of the defs), then what these name: codes, defaults, a class's names; then the methods, then their codes -/
def lowR (o : Obj) : List Addr := match o.data with
  | .func fd => He.refV fd.code ++ He.refV fd.defaults
  | .cls cd => [cd.ns]
  | _ => []
def isFu (g : Addr → Option Obj) (a : Addr) : Bool := match g a with
  | some ⟨_, _, .func _, _⟩ => true
  | _ => false
def namR (o : Obj) : List Addr := match o.data with
  | .dict es _ => es.toList.flatMap fun e => He.refV e.val
  | _ => []
def stepR (r : Obj → List Addr) (g : Addr → Option Obj) (as : List Addr) : List Addr := as.flatMap fun a => match g a with
  | some o => r o
  | none => []
def asK (g : Addr → Option Obj) : Nat → List Addr
  | 0 => mainGlobals :: stepR namR g [mainGlobals]
  | 1 =>
    let l := stepR namR g [mainGlobals]
    let cs := l.filter fun a => !isFu g a
    let fs := l.filter (isFu g)
    let ns := stepR lowR g cs
    let ms := stepR namR g ns
    mainGlobals :: (cs ++ (ns ++ (ms ++ (stepR lowR g ms ++ (fs ++ stepR lowR g fs)))))
  | _ => []
def obsTG (n : Nat) (t : PySem.W.Frag → List (List Bool)) (fn : List He.DefD) (g : Addr → Option Obj) : AlT := obsT t fn (He.frG g (asK g n))
def hookT (n : Nat) (t : PySem.W.Frag → List (List Bool)) (fn : List He.DefD) : PySem.W.Hook where
  α := AlT
  obs := fun s => obsTG n t fn s.heap.get?
  val := fun _ => valT fn
  says := fun _ h => ∃ K : PySem.W.Frag, K.In h ∧ SaysT t fn K
  of := fun _ _ e => ⟨_, He.frG_in, e⟩
  keeps := fun _ _ _ ⟨K, hK, c⟩ k => ⟨K, PySem.W.Frag.In.keeps hK k, c⟩
theorem obsTG_eq {n : Nat} {t : PySem.W.Frag → List (List Bool)} {fn : List He.DefD} {g : Addr → Option Obj} {s : Shared} (h : ∀ a, g a = s.heap.get? a) : obsTG n t fn g = (hookT n t fn).obs s := by
  have e : g = s.heap.get? := funext h
  rw [e] <;> rfl
def obT (n : Nat) (t : PySem.W.Frag → List (List Bool)) (fn : List He.DefD) (s : PySem.W.SharedT) : AlT := obsTG n t fn (HandSHeadRun.getT s)
theorem obT_eq {n : Nat} {t : PySem.W.Frag → List (List Bool)} {fn : List He.DefD} (s : PySem.W.SharedT) : obT n t fn s = (hookT n t fn).obs s.abs := obsTG_eq (HandSHeadRun.getT_eq s)
section
variable {t : PySem.W.Frag → List (List Bool)} {fn : List He.DefD} {K : PySem.W.Frag}
theorem SaysT.chunk (c : SaysT t fn K) (i : Nat) {l : List Bool} (h : (t K)[i]? = some l) : l.all id = true := by
  have c1 := (He.ba (show (((t K).all fun l => l.all id) && fn.all fun d => d.ok K) = true from congrArg (fun z : AlT => z.1) c)).1
  exact List.all_eq_true.mp c1 l (List.mem_of_getElem? h)
theorem fact {l : List Bool} (h : l.all id = true) (i : Nat) {b : Bool} (e : l[i]? = some b) : b = true := List.all_eq_true.mp h b (List.mem_of_getElem? e)
theorem SaysT.def_ (c : SaysT t fn K) (i : Nat) {d : He.DefD} (h : fn[i]? = some d) : ∃ fd, FunD K d.name d.qual d.params d.body d.scope (d.dvs K) (d.kws K) (He.fAd K d.at_) fd := by
  have c2 := (He.ba (show (((t K).all fun l => l.all id) && fn.all fun d => d.ok K) = true from congrArg (fun z : AlT => z.1) c)).2
  have e : fn.map (fun d => He.fnW K d.at_) = fn.map He.DefD.val := by
    rw [← mapO_eq, ← mapV_eq]
    exact congrArg (fun z : AlT => z.2) c
  have e2 : (fn.map fun d => He.fnW K d.at_)[i]? = (fn.map He.DefD.val)[i]? := by rw [e]
  rw [List.getElem?_map, List.getElem?_map, h] at e2
  exact He.DefD.funD (Option.some.inj e2) (List.all_eq_true.mp c2 d (List.mem_of_getElem? h))
end
/-- what the walk wants of a def -/
theorem lok {K : PySem.W.Frag} {x q : Str} {st : Stmt} {f : Addr} (h : ∃ fd, FunD K x q (defArgs st) (defBody st) (defScope st) [] [] f fd) :
    ∃ (oc : Value) (od : Option Addr) (kV doc pm : Value) (an : Option Addr) (cdv ct : Value) (osl : Array (Option Value)), K.lookup f = some ⟨oc, od, .func (PySem.W.fnOf x q (defArgs st) (defBody st) (defScope st) .none kV doc pm an cdv ct), osl⟩ ∧ PySem.W.codeIn K cdv q = true ∧ PySem.W.keepIn K (.ref f) = true := by
  obtain ⟨fd, ⟨⟨oc, od, dV, kV, dc, pm, an, cd, ct, sl, rfl, l, c, dd, _⟩, k⟩⟩ := h
  rcases dd with ⟨_, rfl⟩ | ⟨z, _⟩
  · exact ⟨oc, od, kV, dc, pm, an, cd, ct, sl, l, c, k⟩
  · exact absurd rfl z
def intB (K : PySem.W.Frag) (x : Str) (i : Int) : Bool := match PySem.W.nsIn K mainGlobals x with
  | some (some (.int j _)) => decide (j = i)
  | _ => false
theorem intB_ok {K : PySem.W.Frag} {x : Str} {i : Int} (h : intB K x i = true) : ∃ t, PySem.W.nsIn K mainGlobals x = some (some (.int i t)) := by
  unfold intB at h
  cases e : PySem.W.nsIn K mainGlobals x with
  | none => rw [e] at h; cases h
  | some o =>
    rw [e] at h
    cases o with
    | none => cases h
    | some v =>
      cases v with
      | int j t => rw [← of_decide_eq_true h]; exact ⟨t, rfl⟩
      | _ => cases h
def strB (K : PySem.W.Frag) (x : Str) (i : Str) : Bool := match PySem.W.nsIn K mainGlobals x with
  | some (some (.str j _)) => decide (j = i)
  | _ => false
theorem strB_ok {K : PySem.W.Frag} {x : Str} {i : Str} (h : strB K x i = true) : ∃ t, PySem.W.nsIn K mainGlobals x = some (some (.str i t)) := by
  unfold strB at h
  cases e : PySem.W.nsIn K mainGlobals x with
  | none => rw [e] at h; cases h
  | some o =>
    rw [e] at h
    cases o with
    | none => cases h
    | some v =>
      cases v with
      | str j t => rw [← of_decide_eq_true h]; exact ⟨t, rfl⟩
      | _ => cases h
theorem walk_ofEB {l : PySem.W.OpenLaw} {n k : Nat} {q : Program} {loose : List Str} {XP : (Str → Option Value) → Heap → Prop} {YP : World → Heap → Prop} {d : DefRec} {CX : World → CXT} {x : Str}
    (hn : l.most = some n) (hn2 : n ≤ sizeLine) (hdf : d.params.defaults = []) (hr : Room k callerA)
    (F : ∀ (w : World) (mg : Str → Option Value) (fa : Addr) (h : Heap), YP w h → h.Ns mainGlobals mg → mg d.name = some (.ref fa) →
      ∃ (K : PySem.W.Frag) (fd : FuncData) (sp : Sp), K.In h ∧ (∀ (s : Shared) (u : Value), BindsTo s fd ⟨[u], []⟩ [(x, u)]) ∧
        (∀ (H : Hp) (a : Addr) (ns : List Int), ns.length ≤ n → (∀ z ∈ ns, Builtin.Int.intBits z ≤ 1048576) → Only H → SqL K H a (ns.map V.int) → sp [.ref a] H (fun v _ => v = .bl true) fun _ _ _ => False) ∧
        ∀ base : Heap, K.In base → base.Ns mainGlobals mg → FnOk l.prog w K mg base (CX w) k fa fd [x] sp)
    (hCX : ∀ (w : World) (H : Hp) (s : Shared) (e : Value) (s' : Shared), CX w [] H s (fun _ _ _ => False) e s' → False) :
    PySem.W.WalkO q loose XP YP l.row.toRowW d [] (fun f vs => PySem.call f vs) := by
  refine Att.attach_callB hn hdf fun w s₀ s₁ mg mb fa o pm cd doc a vs ns G Y ho hd hcd hmg hobj hints hlen hbits hg => ?_
  obtain ⟨K, fd, sp, KX, hb, hsp, hF⟩ := F w mg fa _ Y G.T.g hmg
  exact law_call KX G.T.g G.T.b G.T.builtins G.T.nolimit hg hobj hints (Nat.le_trans hlen hn2) hr hF hb (fun H hO hS => hsp H a ns hlen hbits hO hS) fun H e s' => hCX w H s₁ e s'
end PH
end
set_option Elab.async false
set_option linter.all false
set_option maxRecDepth 100000
set_option autoImplicit false
namespace PL
open PySem PySem.Spec L2
open PyProof.Rows hiding St
def repS : PV → PV → R PV
  | .str x, .int k => if (decide (2 ≤ k) && (decide (k ≤ 1000) && (decide (1 ≤ x.length) && decide (x.length ≤ 1000)))) = true then .ok (.str ⟨(List.replicate k.toNat x.cps).foldl (· ++ ·) #[]⟩) else .stuck
  | _, _ => .stuck
theorem repS_exc (p q : PV) (c : Str) : repS p q ≠ .exc c := by
  unfold repS; split <;> (try split) <;> exact fun z => nomatch z
def rRepS : R2 := fun x y H Q => ∃ (z : Str) (k : Int), x = .str z ∧ y = .int k ∧ 2 ≤ k ∧ k ≤ 1000 ∧ 1 ≤ z.length ∧ z.length ≤ 1000 ∧ Q (.str ⟨(List.replicate k.toNat z.cps).foldl (· ++ ·) #[]⟩) H
theorem fold_size (a : Array Nat) : ∀ (n : Nat) (acc : Array Nat), ((List.replicate n a).foldl (· ++ ·) acc).size = acc.size + n * a.size
  | 0, acc => by simp
  | n + 1, acc => by
    rw [List.replicate_succ, List.foldl_cons, fold_size a n, Array.size_append, Nat.add_mul]
    omega
theorem op_repS {X : Cx} : OpR X (binaryOp .Mult) rRepS := by
  intro pins s σ H x y v u Q I rx ry h
  obtain ⟨z, k, rfl, rfl, k2, k1000, l1, l1000, q⟩ := h
  obtain ⟨t, rfl⟩ := rx
  obtain ⟨t', rfl⟩ := ry
  have e1 : ¬ k < 1 := by omega
  have e2 : (k == 1 || z.length == 0) = false := by
    rw [Bool.or_eq_false_iff, beq_eq_false_iff_ne, beq_eq_false_iff_ne]
    omega
  have hk : z.length * k.toNat ≤ 1000 * 1000 := Nat.mul_le_mul l1000 (by omega)
  refine PySem.P.mul_str (by rw [decide_eq_false (by omega), decide_eq_false (by omega)]; rfl) (fun _ _ => ?_) (fun _ _ => ?_) ?_
  · have : 1000 ≤ (2 ^ 63 - 1) / k := (Int.le_ediv_iff_mul_le (by omega)).mpr (by omega)
    omega
  · unfold Builtin.Str.tooLong
    rw [sizeLine_eq]
    exact decide_eq_false (by omega)
  · rw [if_neg e1, e2, if_neg Bool.false_ne_true]
    refine ⟨?_, .str _, H, I.tok _, ⟨_, rfl⟩, q⟩
    show ((List.replicate k.toNat z.cps).foldl (· ++ ·) #[]).size ≤ sizeLine
    rw [fold_size, sizeLine_eq]
    have : k.toNat * z.cps.size ≤ 1000 * 1000 := Nat.mul_le_mul (by omega) l1000
    show 0 + _ ≤ _
    omega
theorem s_repS (K : PySem.W.Frag) : OpS K rRepS .t .t .s repS := by
  intro H0 O0 σ ρ H H2 x y p q Q S s rx ry G
  unfold repS at G
  split at G
  · split at G
    · rename_i hz
      rw [Bool.and_eq_true, Bool.and_eq_true, Bool.and_eq_true, decide_eq_true_eq, decide_eq_true_eq, decide_eq_true_eq, decide_eq_true_eq] at hz
      rw [rt_str rx, rt_int ry]
      exact ⟨_, _, rfl, rfl, hz.1, hz.2.1, hz.2.2.1, hz.2.2.2, G _ _ (Same.refl _) (.str _)⟩
    · exact G.elim
  · exact G.elim
section
variable {X : Cx} {W : WX} {a b : Expr} {pos : Pos} {f g : Rho → R PV}
theorem e_repS (ha : EJ X W .t a f) (hb : EJ X W .t b g) : EJ X W .s (.BinOp a .Mult b pos) (e2 repS f g) := e_op op_repS repS_exc (s_repS _) ha hb
end
theorem fold_toL (l : List Nat) : ∀ (n : Nat) (acc : List Nat), (List.replicate n l.toArray).foldl (· ++ ·) acc.toArray = (acc ++ (List.replicate n l).flatten).toArray
  | 0, acc => by simp
  | n + 1, acc => by
    rw [List.replicate_succ, List.foldl_cons, List.append_toArray, fold_toL l n (acc ++ l), List.replicate_succ, List.flatten_cons, List.append_assoc]
theorem repS_ok {l : List Nat} {k : Int} (h2 : 2 ≤ k) (h3 : k ≤ 1000) (h1 : 1 ≤ l.length) (hl : l.length ≤ 1000) : repS (.str ⟨l.toArray⟩) (.int k) = .ok (.str ⟨(List.replicate k.toNat l).flatten.toArray⟩) := by
  have e := fold_toL l k.toNat []
  rw [List.nil_append] at e
  have hs : (⟨l.toArray⟩ : Str).length = l.length := by show l.toArray.size = _; simp
  unfold repS
  dsimp only
  rw [hs, if_pos (by rw [decide_eq_true h2, decide_eq_true h3, decide_eq_true h1, decide_eq_true hl]; rfl)]
  exact congrArg (fun z => R.ok (PV.str ⟨z⟩)) e
end PL
set_option Elab.async false
set_option linter.all false
set_option maxRecDepth 100000
set_option autoImplicit false
namespace L2N
open PySem PySem.Spec PyProof.Rows L2
/-- the same context, another wish about exceptions -/
theorem withE {X : Cx} {pins : List (Addr × Obj)} {σ : St} {H : Hp} {s : Shared} (xe : Value → Shared → Prop) (I : Inv X pins σ H s) : Inv { X with xe := xe } pins σ H s :=
  ⟨⟨I.ok.mod, I.ok.kind, I.ok.glob, I.ok.blt, I.ok.above, I.ok.inj, I.ok.has, I.ok.cab, I.ok.hd, I.ok.frames, I.ok.stk, I.ok.exf, I.ok.bs, I.ok.bsz, I.ok.noex, I.ok.exfs, I.ok.funs, I.ok.frf⟩, I.os, I.bare, I.base, I.loc, I.cell, I.free, I.freeC, I.pin, I.hok, I.len⟩
section
variable {X : Cx} {pins : List (Addr × Obj)} {σ : St} {H : Hp} {sI s s' : Shared} {B : Heap} {W : WX} {E : XK}
/-- of a heap, what a ground and some frames have -/
theorem groundOf {B h : Heap} (st : B.StaysIn h) (fs : List Addr) : ∃ G : Heap, (∀ b o, B.get? b = some o → G.get? b = some o) ∧ (∀ b, b ∈ fs → G.get? b = h.get? b) ∧ ∀ b o, G.get? b = some o → h.get? b = some o ∧ (b ∉ fs → B.get? b = some o) := by
  obtain ⟨G, yes, no⟩ := restrict h fun b => decide (b ∈ fs) || (B.get? b).isSome
  refine ⟨G, fun b o e => (yes b (by rw [e]; simp)).trans (st b o e), fun b m => yes b (by simp [m]), fun b o e => ?_⟩
  by_cases m : b ∈ fs
  · exact ⟨(yes b (by simp [m])).symm.trans e, fun n => absurd m n⟩
  · cases q : B.get? b with
    | none => exact absurd e (by rw [no b (by simp [m, q])]; exact fun z => nomatch z)
    | some o2 =>
      have e2 := yes b (by simp [q])
      have e3 := st b o2 q
      rw [← e2, e] at e3
      cases e3
      exact ⟨e2.symm.trans e, fun _ => rfl⟩
/-- a call's exception is in our air, in parts -/
theorem of_callP (I : Inv X pins σ H s) {u : Value} (c : CX X.prog X.w X.stack H s E u s') : ∃ (a : Addr) (B : Heap) (sI : Shared) (H' : Hp) (cls : Value) (d : Option Addr), u = .ref a ∧ HandSPX.FlyingZ B X.stack a (Zn cls d) s'.heap ∧ Inv X pins σ H' sI ∧
    (∀ b o, sI.heap.get? b = some o → b ∉ frs X.stack → B.get? b = some o) ∧ sI.heap.UpToSlots s'.heap ∧ H' a = none ∧ s'.os = sI.os ∧ AllBare s'.gens ∧ E cls d H' := by
  obtain ⟨a, B, H', cls, d, rfl, fl, hok, ub, na, os, ag, hE⟩ := c
  obtain ⟨G, gB, gF, gO⟩ := groundOf fl.1 (frs X.stack)
  have slot : ∀ b o, s.heap.get? b = some o → b ∈ frs X.stack → ∃ sl, G.get? b = some { o with slots := sl } := fun b o e m => by
    obtain ⟨sl, q⟩ := ub.slot b o e m
    exact ⟨sl, (gF b m).trans q⟩
  have J : Inv X pins σ H' { s with heap := G, gens := s'.gens, drawn := s'.drawn, toks := s'.toks } := by
    refine I.call (ch := []) ?_ (hok.kept gB) ag (fun _ z => nomatch z)
    refine { keep := fun b o e n m _ => gB b o (ub.keep b o e n m), slot := fun b o e _ m _ => slot b o e m, free := fun b o e n _ => ub.free b o e n, there := fun b o e _ => ?_, tups := ub.tups, frzs := ub.frzs, tbls := ub.tbls }
    by_cases m : b ∈ frs X.stack
    · exact (slot b o e m).elim fun sl q => ⟨_, q⟩
    · exact (ub.there b o e m).elim fun o2 q => ⟨o2, gB b o2 q⟩
  exact ⟨a, B, _, H', cls, d, rfl, fl, J, fun b o e m => (gO b o e).2 m, Heap.UpToSlots.of_keeps fun b o e => (gO b o e).1, na, os, ag, hE⟩
/-- it leaves the comprehension -/
theorem lc_fails (hs : X.stack = X.env :: X.outer) (hf : X.env.frame = some X.env.locals) (tk : Takes X W) {ce : Env} {fp : List Addr} {pins2 : List (Addr × Obj)} {σ2 : St} {H2 : Hp} {s2 : Shared} {H3 : Hp} {s3 : Shared} {scope : Scope} {xe : Value → Shared → Prop}
    (hcf : ce.frame = X.env.frame)
    (I : Inv ({ X.blk s3 H3 scope ce fp with xe := xe } : Cx) pins2 σ2 H2 s2)
    (back : ∀ (H' : Hp) (s' : Shared), Inv ({ X.blk s3 H3 scope ce fp with xe := xe } : Cx) pins2 σ2 H' s' → H' ce.locals = none → Inv X pins σ H' s' ∧ FpOk X pins H' ce.locals)
    {e : Value} (c : CX X.prog X.w X.stack H2 s2 (fun cls d H => W cls d σ H) e s') :
    notedBy (model X.prog X.w) X.A ce (CompFails (model X.prog X.w) X.A X.xe ce) e s' := by
  obtain ⟨a, B, sI, H', cls, d, rfl, fl, I', nb, up, na, os, ag, w⟩ := of_callP (X := ({ X.blk s3 H3 scope ce fp with xe := xe } : Cx)) I c
  have hfr : X.A.frames = some (X.env :: X.outer) := by rw [show X.A.frames = some X.stack from I'.ok.frames, hs]
  have nC : H' ce.locals = none := I'.free
  obtain ⟨I7, fpC⟩ := back H' sI I' nC
  obtain ⟨m, hn, _⟩ := I'.loc
  have hn : sI.heap.Ns ce.locals m := hn
  have fl : HandSPX.FlyingZ B (X.env :: X.outer) a (Zn cls d) s'.heap := by rw [← hs]; exact fl
  show wpAny _ X.A (noteFrame (.ref a) ce) _ _ s'
  rw [noteFrame_env _ hcf]
  refine PXN.looks_onZ Zn.steady hfr hf fl fun h1 held up1 => ?_
  have up2 : sI.heap.UpToSlots h1 := up.trans up1
  refine ⟨m, hn.upToSlots up2, fun h2 m2 hn2 sb => ?_⟩
  have keep : ∀ b o, b ≠ ce.locals → h1.get? b = some o → h2.get? b = some o := fun b o hb e => (sb.2 b hb).trans e
  obtain ⟨B2, b1, b2⟩ : ∃ B2 : Heap, (∀ b o, B2.get? b = some o → B.get? b = some o ∧ b ≠ ce.locals) ∧ (∀ b o, b ≠ ce.locals → B.get? b = some o → B2.get? b = some o) := by
    refine ⟨PySem.W.hideAll B [ce.locals], fun b o e => ⟨PySem.W.of_hideAll _ e, fun z => ?_⟩, fun b o hb e => PySem.W.hideAll_get _ e (by simpa using hb)⟩
    rw [z, PySem.W.hideAll_none _ (by simp)] at e; cases e
  obtain ⟨G2, g1, g2⟩ : ∃ G2 : Heap, (∀ b o, G2.get? b = some o → sI.heap.get? b = some o ∧ b ≠ ce.locals) ∧ (∀ b o, b ≠ ce.locals → sI.heap.get? b = some o → G2.get? b = some o) := by
    refine ⟨PySem.W.hideAll sI.heap [ce.locals], fun b o e => ⟨PySem.W.of_hideAll _ e, fun z => ?_⟩, fun b o hb e => PySem.W.hideAll_get _ e (by simpa using hb)⟩
    rw [z, PySem.W.hideAll_none _ (by simp)] at e; cases e
  have none2 : ∀ b, B.get? b = none → B2.get? b = none := fun b e => by
    cases q : B2.get? b with
    | none => rfl
    | some o => have := (b1 b o q).1; rw [e] at this; cases this
  obtain ⟨f1, f2, f3, f4⟩ := held
  obtain ⟨oe, vs, T, oT, ts, he, hz, hd, h1', hnT, hTe, hT, hdT, h3⟩ := f4
  -- the names' block is no record
  obtain ⟨oC, es, ep, hoC, hdC, _⟩ := hn.upToSlots up2
  have eC : a ≠ ce.locals := fun z => by rw [z, hoC] at he; cases he; rw [hdC] at hd; cases hd
  have TC : T ≠ ce.locals := fun z => by rw [z, hoC] at hT; cases hT; rw [hdC] at hdT; cases hdT
  have ff : ∀ {l : List Env}, h1.FunFrames B l → h2.FunFrames B2 l := by
    intro l
    induction l with
    | nil => exact fun _ => trivial
    | cons en r ih =>
      intro ⟨k1, ⟨L, o, k2, k3, k4, k5⟩, k6⟩
      by_cases q : L = ce.locals
      · obtain ⟨o2, es2, ep2, e2, d2, _⟩ := hn2
        exact ⟨k1, ⟨L, o2, k2, none2 L k3, by rw [q]; exact e2, fun vs z => by rw [d2] at z; cases z⟩, ih k6⟩
      · exact ⟨k1, ⟨L, o, k2, none2 L k3, keep L o q k4, k5⟩, ih k6⟩
  have tr : HandSPX.TracedZ h2 B2 a (Zn cls d) (rawInt X.env.locals) := ⟨oe, vs, T, oT, ts, keep a oe eC he, hz, hd, h1', none2 T hnT, hTe, keep T oT TC hT, hdT, h3⟩
  have held2 : HandSPX.HeldZ B2 (X.env :: X.outer) a (Zn cls d) X.env.locals h2 := ⟨fun b o e => keep b o (b1 b o e).2 (f1 b o (b1 b o e).1), none2 a f2, ff f3, tr⟩
  unfold PySem.passOn
  refine wpAny_bind (wpAny_field (keep a oe eC he) hd h1' ?_)
  rw [if_neg (show ¬ ((Value.ref T == Value.none) = true) from by simp), hcf, hf]
  refine wpAny_bind (HandSPX.setFlight_onZ (s := { s' with heap := h2 }) held2 fun h4 held4 up4 => ?_)
  refine wpAny_throw ?_
  obtain ⟨q0, q1, q2, q3, q4, q5⟩ := fpC
  refine tk _ _ ⟨a, B2, { sI with heap := G2 }, pins, σ, H', cls, d, rfl, I7.turned (t' := sI.toks) (fun b o hb e => g2 b o hb e) q0 q1 q3 q4 q5, fun b o e hb => ?_, fun b o e hnf => ?_, .inr (.inr (by rw [hs]; exact held4)), na, os, ag, w⟩
  · obtain ⟨e1, e2⟩ := g1 b o e
    exact b2 b o e2 (nb b o e1 hb)
  · obtain ⟨e1, e2⟩ := g1 b o e
    obtain ⟨sl, e3⟩ := up2 b o e1 hnf
    exact up4 b { o with slots := sl } (keep b _ e2 e3) hnf
end
end L2N
namespace L2N
open PySem PySem.Spec PyProof.Rows L2
/-- a comprehension's block, with a wish about exceptions -/
abbrev blkE (X : Cx) (s : Shared) (H : Hp) (scope : Scope) (ce : Env) (fp : List Addr) (xe : Value → Shared → Prop) : Cx := { X.blk s H scope ce fp with xe := xe }
section
variable {X : Cx} {W : WX}
theorem lc_coreX {pins : List (Addr × Obj)} {s : Shared} {σ : St} {H : Hp} {Q : VK} {elt tg iter : Expr} {ifs : List Expr} {scope : Scope} {own : List (Str × Nat)} {pos pos' : Pos} {wi : TI} {g : TG} {tt : TT} {te : TE} {use : Option (Value → Sem Unit)} {Qf : Value → Shared → Prop}
    (hs0 : X.stack = X.env :: X.outer) (hf : X.env.frame = some X.env.locals) (tk : Takes X W) (hc : X.calm = true) (hN : X.N.Nodup) (I : Inv X pins σ H s) (hi : PI X tg iter wi) (ok : BlkOk X.N X.env.scope scope own)
    (hg : ∀ (s : Shared) (H : Hp) (C : Addr) (cl : List (Str × Addr)) (fp : List Addr), PG (X.blk s H scope (compEnvC scope cl C X.env) fp) tg g)
    (ht : ∀ (s : Shared) (H : Hp) (C : Addr) (cl : List (Str × Addr)) (fp : List Addr), PTs (X.blk s H scope (compEnvC scope cl C X.env) fp) ifs tt)
    (he : ∀ (s : Shared) (H : Hp) (C : Addr) (cl : List (Str × Addr)) (fp : List Addr) (xe : Value → Shared → Prop), (∀ σ2, PassesAt (L2N.CX X.prog X.w) (blkE X s H scope (compEnvC scope cl C X.env) fp xe) σ2 (fun cls d H => W cls d σ H)) → PE (blkE X s H scope (compEnvC scope cl C X.env) fp xe) elt te)
    (hs : ∀ x, foldedSetIterable iter X.env x = pure x) (h : tLc wi g tt te (own.map (·.2)) σ H Q)
    (fin : ∀ (D : Addr) (ce : Env) (s' : Shared) (m : Str → Option Value) (H' : Hp), Inv X pins σ H' s' → Q (.ref D) H' → s'.heap.Ns ce.locals m → FpOk X pins H' ce.locals → compEnds (model X.prog X.w) X.A X.xe use Qf (.ref D) ce (.ok .next) s') :
    wpAny (model X.prog X.w) X.A (comprehension (.ListComp elt [⟨tg, iter, ifs, 0⟩] scope pos) scope X.env pos' (newList []) false (eval iter X.env) use) Qf X.xe s := by
  have cells : ∀ y ∈ scope.names, y.2 = .free → ∃ c, X.env.cells.lookup y.1 = some c := fun y hy e => (ok.free y hy e).elim (fun z => I.ok.has _ (.inl z)) fun z => I.ok.has _ (.inr z)
  refine comprehension_at (use := use) rfl hs (closure_ok cells) ok.kind (fun y hy e => by rw [ok.uniq y hy, e]) ?_
  refine thn (hi.run pins s σ H _ I h) fun xv sa ha => thn ha fun itv sb hb => ?_
  obtain ⟨it, fp, tn, J, Hb, rfl, Ib, T, tb, fb, q⟩ := hb
  refine wpAny_newObj_type (newEnv_comp ?_) (by show 0 ≤ sizeLine; decide)
  -- the new list stands at D, its state is sc
  obtain ⟨D, eD⟩ : ∃ D, D = sb.heap.objs.size := ⟨_, rfl⟩
  have nD : Hb D = none := Ib.hok.fresh (Nat.le_of_eq eD.symm)
  obtain ⟨Z, ⟨k0, z0⟩, turn⟩ := q D nD
  obtain ⟨sc, esc⟩ : ∃ sc : Shared, sc = { sb with heap := sb.heap.push { cls := .type "list", data := .seq ([] : List Value).toArray } } := ⟨_, rfl⟩
  have esz : sc.heap.objs.size = D + 1 := by rw [esc]; show (sb.heap.push _).objs.size = _; rw [Heap.size_push, eD]
  have old : ∀ b o, sb.heap.get? b = some o → sc.heap.get? b = some o := fun b o e => by rw [esc]; exact Heap.get?_push_of_some _ e
  obtain ⟨Hc, eHc⟩ : ∃ Hc, Hc = upd Hb D (.lst []) := ⟨_, rfl⟩
  have Ic : Inv X pins σ Hc sc := by
    rw [eHc, esc]
    refine Ib.laid (t' := sb.toks) (fun b o e => Heap.get?_push_of_some _ e) (Nat.le_of_eq eD.symm) ⟨Nat.zero_le _, [], 0, .nil, ?_⟩
    rw [eD]; exact Heap.get?_push_size _ rfl
  have young : ∀ b ∈ fp, b < sb.heap.objs.size := fun b hb => (T.obj 0 _ tb b hb).elim fun o e => Heap.lt_size e.1
  have fpc : ∀ b ∈ fp, FpOk X pins Hc b ∧ b < sc.heap.objs.size := fun b hb => by
    have l := young b hb
    have ne : b ≠ D := by rw [eD]; exact Nat.ne_of_lt l
    exact ⟨⟨by rw [eHc, upd_ne ne]; exact (fb b hb).1, (fb b hb).2⟩, by rw [esz, eD]; exact Nat.lt_succ_of_lt l⟩
  have z0 : Z 0 k0 Hc := by rw [eHc]; exact z0
  have tc : tn 0 sc.heap := T.keep _ _ _ tb fun b _ o e => old b o e
  have Id := block_start Ic ok hN fpc
  rw [← esc]
  obtain ⟨ce, ece⟩ : ∃ ce, ce = compEnvC scope (cellsFrom (sc.heap.objs.size + 1) scope.names (cloFrom X.env.cells scope.names [])) sc.heap.objs.size X.env := ⟨_, rfl⟩
  obtain ⟨sd, esd⟩ : ∃ sd : Shared, sd = { sc with heap := pushCells (sc.heap.push { cls := .type "dict", data := .dict #[] }) scope.names } := ⟨_, rfl⟩
  have td : tn 0 sd.heap := T.keep _ _ _ tc fun b _ o e => by rw [esd]; exact pushCells_keeps _ _ _ _ (Heap.get?_push_of_some _ e)
  have pg := hg sc Hc sc.heap.objs.size (cellsFrom (sc.heap.objs.size + 1) scope.names (cloFrom X.env.cells scope.names [])) fp
  have pt := ht sc Hc sc.heap.objs.size (cellsFrom (sc.heap.objs.size + 1) scope.names (cloFrom X.env.cells scope.names [])) fp
  have pe := he sc Hc sc.heap.objs.size (cellsFrom (sc.heap.objs.size + 1) scope.names (cloFrom X.env.cells scope.names [])) fp
  rw [← ece] at pg pt pe Id
  rw [← esd] at Id
  have ceL : ce.locals = sc.heap.objs.size := by rw [ece]; rfl
  have ceF : ce.frame = X.env.frame := by rw [ece]; rfl
  show codeAny _ _ (.compStart (.ListComp elt [⟨tg, iter, ifs, 0⟩] scope pos) 0 (.ref it) (.ref sb.heap.objs.size) (compEnvC scope (cellsFrom (sc.heap.objs.size + 1) scope.names (cloFrom X.env.cells scope.names [])) sc.heap.objs.size X.env)) (compEnds (model X.prog X.w) X.A X.xe use Qf (.ref sb.heap.objs.size) (compEnvC scope (cellsFrom (sc.heap.objs.size + 1) scope.names (cloFrom X.env.cells scope.names [])) sc.heap.objs.size X.env)) { sc with heap := pushCells (sc.heap.push { cls := .type "dict", data := .dict #[] }) scope.names }
  rw [← ece, ← esd, ← eD]
  -- back in the def's own context
  have back0 : ∀ (H' : Hp) (s' : Shared), s'.os = sc.os → Un (frs X.stack) fp Hc H' sc.heap s'.heap → HOk X.prog X.w H' s'.heap → AllBare s'.gens → H' ce.locals = none → Inv X pins σ H' s' ∧ FpOk X pins H' ce.locals := fun H' s' a b c d n =>
    ⟨Ic.call' (ch := fp) a b c d fun b hb => ⟨(fpc b hb).1.2.2.2.1, (fpc b hb).1.2.1, (fpc b hb).1.2.2.2.2.1, (fpc b hb).1.2.2.2.2.2⟩, Ic.fpOk (by rw [ceL]; exact Nat.le_refl _) n⟩
  -- what leaves the element
  obtain ⟨xe, exe⟩ : ∃ xe, xe = notedBy (model X.prog X.w) X.A ce (CompFails (model X.prog X.w) X.A X.xe ce) := ⟨_, rfl⟩
  have pe := pe xe fun σ2 pins2 H2 e2 s2 s2' I2 c2 => by
    rw [exe]
    exact lc_fails hs0 hf tk ceF I2 (fun H' s' I' n => back0 H' s' I'.os I'.base I'.hok I'.bare n) c2
  have none0 : ∀ b ∈ fp, Hc b = none := fun b hb => (fpc b hb).1.1
  have stays : ∀ {σ' : St} {H' : Hp} {s' : Shared}, Inv (X.blk sc Hc scope ce fp) [] σ' H' s' → (∀ b ∈ fp, H' b = none) → ∀ b ∈ fp, FpOk (X.blk sc Hc scope ce fp) [] H' b := fun {σ' H' s'} I' n b hb =>
    ⟨n b hb, (I'.ok.exf b hb).1, I'.ok.exfs b hb, .inl hb, (I'.ok.exf b hb).2, fun p hp => absurd (show p ∈ ([] : List (Addr × Obj)) ++ [] from hp) (by simp)⟩
  have loop : codeAny (model X.prog X.w) X.A (.compLoop (.ListComp elt [⟨tg, iter, ifs, 0⟩] scope pos) 0 (.ref it) (.ref D) ce) (compEnds (model X.prog X.w) X.A X.xe use Qf (.ref D) ce) sd := by
    refine compLoop_any (fun k s' => ∃ i H', Z i k H' ∧ (∀ b ∈ fp, H' b = none) ∧ tn i s'.heap ∧ Inv (X.blk sc Hc scope ce fp) [] (wipe σ (own.map (·.2))) H' s') (fun k s5 ⟨i, H5, z5, n5, t5, I5⟩ => ?_) k0 ⟨0, Hc, z0, none0, td, Id⟩
    rcases turn i k H5 z5 with ⟨halt, done⟩ | ⟨go, Nx, next, body⟩
    · refine thnF (T.done (X.blk sc Hc scope ce fp) rfl rfl rfl hc i [] s5 _ H5 (fun _ _ => False) I5 (stays I5 n5) t5 halt) fun r s6 ⟨er, I6⟩ => ?_
      subst er
      obtain ⟨I7, f7⟩ := back0 H5 s6 I6.os I6.base I6.hok I6.bare I6.free
      obtain ⟨m, hn, _⟩ := I6.loc
      exact fin D ce s6 m H5 I7 done hn f7
    · refine thnF (T.item (X.blk sc Hc scope ce fp) rfl rfl rfl hc i [] s5 _ H5 (fun _ _ => False) I5 (stays I5 n5) t5 go) fun r s6 ⟨u, er, h6⟩ => ?_
      subst er
      refine thnF h6 fun _ s7 ⟨x, H7, I7, r7, y7, t7, n7⟩ => ?_
      have P7 := I7.pinned (stays I7 n7) (T.obj _ _ t7)
      refine thnF (pg.run _ s7 _ H7 x u _ P7 r7 (body x H7 y7)) fun _ s8 ⟨σ8, H8, I8, w8, q8⟩ => ?_
      refine thnF (pt.run _ s8 σ8 H8 _ I8 q8) fun b s9 ⟨H9, I9, q9⟩ => ?_
      have again : ∀ {s' : Shared} {H' : Hp}, Inv (X.blk sc Hc scope ce fp) ([] ++ pinsAt fp s7.heap) σ8 H' s' → Nx H' → ∃ k', k' < k ∧ ∃ i H', Z i k' H' ∧ (∀ b ∈ fp, H' b = none) ∧ tn i s'.heap ∧ Inv (X.blk sc Hc scope ce fp) [] (wipe σ (own.map (·.2))) H' s' := fun {s' H'} I' nx => by
        obtain ⟨k', lt, z'⟩ := next H' nx
        have stood : ∀ b ∈ fp, ∀ o, s7.heap.get? b = some o → s'.heap.get? b = some o ∧ H' b = none := fun b hb o e => by
          have p := I'.pin (b, o) (List.mem_append_right _ (List.mem_append_right _ (mem_pinsAt hb e)))
          exact ⟨p.1, p.2.1⟩
        refine ⟨k', lt, i + 1, H', z', fun b hb => (T.obj _ _ t7 b hb).elim fun o e => (stood b hb o e.1).2, T.keep _ _ _ t7 fun b hb o e => (stood b hb o e).1, ?_⟩
        have l8 : (wipe σ (own.map (·.2))).length = σ8.length := by rw [← w8, wipe_length]
        exact (I'.unpinned (pins := [])).weak l8 fun j v e => by
          rw [← w8] at e
          exact (wipe_some e).1
      cases b with
      | false => exact again I9 q9
      | true =>
        have I9e : Inv (blkE X sc Hc scope ce fp xe) ([] ++ pinsAt fp s7.heap) σ8 H9 s9 := withE xe I9
        have w9 := pe.run _ s9 σ8 H9 _ I9e q9
        refine wpAny_mono w9 (fun z s10 hz => ?_) fun x9 s10 hx => ?_
        · obtain ⟨yv, H10, I10, r10, acc, hD, lt, nx⟩ := hz
          exact app_ok (X := X.blk sc Hc scope ce fp) (withE (X := blkE X sc Hc scope ce fp xe) (fun _ _ => False) I10) hD lt r10 fun s11 I11 => again I11 nx
        · have hx : xe x9 s10 := hx
          rw [exe] at hx
          exact hx
  exact codeAny_compStart_list loop (T.self X.A 0 _ _ _ td loop)
end
end L2N
namespace L2N
open PySem PySem.Spec PyProof.Rows L2
/-- name = [..], the name a local; the element may let an exception out -/
theorem ps_setLcX {X : Cx} {W : WX} {i : Nat} {y : Str} {py : Pos} {elt tg iter : Expr} {ifs : List Expr} {scope : Scope} {own : List (Str × Nat)} {pos spos : Pos} {wi : TI} {g : TG} {tt : TT} {te : St → TE}
    (hs0 : X.stack = X.env :: X.outer) (hf : X.env.frame = some X.env.locals) (tk : Takes X W) (hc : X.calm = true) (hN : X.N.Nodup) (hy : X.N[i]? = some y) (hyl : X.env.scope.names.lookup y = some .local)
    (hsw : swapsWith (.ListComp elt [⟨tg, iter, ifs, 0⟩] scope pos) (some (.Name y py)) spos.line X.env = pure true) (hi : PI X tg iter wi) (ok : BlkOk X.N X.env.scope scope own)
    (hg : ∀ (s : Shared) (H : Hp) (C : Addr) (cl : List (Str × Addr)) (fp : List Addr), PG (X.blk s H scope (compEnvC scope cl C X.env) fp) tg g)
    (ht : ∀ (s : Shared) (H : Hp) (C : Addr) (cl : List (Str × Addr)) (fp : List Addr), PTs (X.blk s H scope (compEnvC scope cl C X.env) fp) ifs tt)
    (he : ∀ (σ : St) (s : Shared) (H : Hp) (C : Addr) (cl : List (Str × Addr)) (fp : List Addr) (xe : Value → Shared → Prop), (∀ σ2, PassesAt (L2N.CX X.prog X.w) (blkE X s H scope (compEnvC scope cl C X.env) fp xe) σ2 (fun cls d H => W cls d σ H)) → PE (blkE X s H scope (compEnvC scope cl C X.env) fp xe) elt (te σ))
    (hs : ∀ x, foldedSetIterable iter X.env x = pure x := by intro _; rfl) :
    PS X (.Assign [.Name y py] (.ListComp elt [⟨tg, iter, ifs, 0⟩] scope pos) spos) (fun D σ H => tLc wi g tt (te σ) (own.map (·.2)) σ H fun x H1 => gName i x σ H1 D.nx) := by
  refine ⟨fun pins s σ H D I h => ?_⟩
  rw [exec_Assign_Name_used _ _ _ _ hsw]
  refine wpAny_bind (wpAny_standAt (wpAny_bind ?_))
  show wpAny _ X.A (do let _ ← comprehension (.ListComp elt [⟨tg, iter, ifs, 0⟩] scope pos) scope X.env (firstIterPos [⟨tg, iter, ifs, 0⟩] pos) (newList []) false (eval iter X.env) (some (assign (.Name y py) X.env))) _ _ s
  have core := lc_coreX (pos' := firstIterPos [⟨tg, iter, ifs, 0⟩] pos) (use := some (assign (.Name y py) X.env)) (Qf := fun _ s' => SP X pins D .next s') (pos := pos) hs0 hf tk hc hN I hi ok hg ht (he σ) hs h ?_
  · exact wpAny_bind (thn core fun _ s' hq => wpAny_pure (wpAny_pure hq))
  intro L ce s' m H' I' q hn ⟨_, e1, _, e3, e4, e5⟩
  have n0 : H' ce.locals = none := ‹_›
  refine wpAny_assign_Name (store_ok2 (v := V.ref L) I' hN hy (.inl hyl) rfl (fun s2 I2 ⟨a, sb, at_⟩ => ?_) (.inr hyl))
  have apart : ce.locals ≠ a := at_.elim (fun z => by rw [z]; exact e1) fun z r => e4 y a z r.symm
  exact ⟨m, hn.sameBut sb apart, fun h3 sb3 => ⟨_, H', I2.turned (t' := s2.toks) (fun b o hb e => (sb3.2 b hb).trans e) n0 e1 e3 e4 e5, q⟩⟩
end L2N
namespace PL
open PySem PySem.Spec L2
open PyProof.Rows hiding St
/-- the results, or the first exception of an element -/
def lcGoE (tgt : PV → Rho → Option Rho) (elt : Rho → R PV) (ρ : Rho) : List PV → R (List PV)
  | [] => .ok []
  | p :: ps => match tgt p ρ with
    | none => .stuck
    | some ρ1 => match elt ρ1 with
      | .ok q => (lcGoE tgt elt ρ ps).bind fun qs => .ok (q :: qs)
      | .exc c => .exc c
      | .stuck => .stuck
def eLcE (vs : List Nat) (it : Rho → R (List PV)) (tgt : PV → Rho → Option Rho) (elt : Rho → R PV) : Rho → R PV := fun ρ =>
  if vs.all (notOwn ρ) = true then (it ρ).bind fun items => if items.length ≤ sizeLine then (lcGoE tgt elt (wipeR ρ vs) items).bind fun qs => .ok (.lst qs) else .stuck
  else .stuck
/-- how much of the results is there: all of them are the first ones and the rest's -/
theorem lc_runX {wi : Rho → R (List PV)} {tgt : PV → Rho → Option Rho} {elt : Rho → R PV} {vs ts : List Nat} (hts : ∀ i ∈ ts, i ∈ vs) {K : PySem.W.Frag} {mg : Str → Option Value} {W : WX} :
    ∀ σ H Q, tE K mg W .f (eLcE vs wi tgt elt) σ H Q → tLc (tI K mg W wi) (tG K ts tgt) (tT K mg WF cYes) (tE K mg (fun cls d _ H => W cls d σ H) .s elt) vs σ H Q := by
  intro σ H Q ⟨H0, O0, ρ, S, G⟩
  refine ⟨H0, O0, ρ, S, ?_⟩
  revert G
  unfold eLcE
  by_cases hn : vs.all (notOwn ρ) = true
  case neg => rw [if_neg hn]; exact False.elim
  rw [if_pos hn]
  cases wi ρ with
  | stuck => exact False.elim
  | exc c => exact fun G => G
  | ok items =>
    rw [R.bind_ok]
    by_cases hz : items.length ≤ sizeLine
    case neg => rw [if_neg hz]; exact False.elim
    rw [if_pos hz]
    intro G J H1 s1 ok D hD
    obtain ⟨tot, htot⟩ : ∃ tot, tot = lcGoE tgt elt (wipeR ρ vs) items := ⟨_, rfl⟩
    rw [← htot] at G
    have S1 := S.step s1
    obtain ⟨S2, l2⟩ := wipe_st S1 vs
    have hH0 : H0 D = none := S1.same.free hD
    have S3 : StR K H0 (fun b => O0 b ∨ b = D) (upd H1 D (.lst [])) (wipe σ vs) (wipeR ρ vs) := forbid S2 hD
    have OD : OO (fun b => O0 b ∨ b = D) (wipe σ vs) (wipeR ρ vs) D := .inl (.inr rfl)
    have oo : ∀ a, OO (fun b => O0 b ∨ b = D) (wipe σ vs) (wipeR ρ vs) a → OO O0 σ ρ a ∨ a = D := fun a z => by
      rcases z with (z | z) | z
      · exact .inl (.inl z)
      · exact .inr z
      · exact .inl (l2 a (.inr z))
    refine ⟨fun i m Hc => m = items.length - i ∧ i ≤ items.length ∧ Same H1 Hc ∧ StR K H0 (fun b => O0 b ∨ b = D) Hc (wipe σ vs) (wipeR ρ vs) ∧
        ∃ ws ps, Hc D = some (.lst ws) ∧ Reps K Hc (OO (fun b => O0 b ∨ b = D) (wipe σ vs) (wipeR ρ vs)) ws ps ∧ ps.length ≤ i ∧ tot = (lcGoE tgt elt (wipeR ρ vs) (items.drop i)).bind fun rs => .ok (ps ++ rs),
      ⟨items.length, by simp, Nat.zero_le _, same_new hD, S3, [], [], upd_same, .nil, Nat.zero_le _, by rw [List.drop_zero, htot]; cases lcGoE tgt elt (wipeR ρ vs) items <;> rfl⟩, ?_⟩
    rintro i m Hc ⟨rfl, hi, sc, Sc, ws, ps, hDc, rc, hpl, hgo⟩
    have kept : Kept (OO O0 σ ρ) H1 (OO (fun b => O0 b ∨ b = D) (wipe σ vs) (wipeR ρ vs)) Hc := fun a o h n => ⟨sc a o h, fun z => (oo a z).elim n (ne_of_none h hD)⟩
    have alloc : ∀ a, OO (fun b => O0 b ∨ b = D) (wipe σ vs) (wipeR ρ vs) a → Hc a ≠ none := fun a z => Sc.there z
    by_cases hlt : i < items.length
    · refine .inr ⟨ok.go i Hc _ kept hlt, _, fun H' n => ⟨items.length - (i + 1), by omega, rfl, hlt, n⟩, fun x Hy hy => ?_⟩
      have hg : items[i]? = some items[i] := List.getElem?_eq_getElem hlt
      obtain ⟨sy, ry⟩ := ok.yld i Hc _ x Hy _ kept alloc hg hy
      rw [List.drop_eq_getElem_cons hlt] at hgo
      refine ⟨H0, _, wipeR ρ vs, items[i], Sc.step sy, ry, ?_⟩
      unfold lcGoE at hgo
      cases ht : tgt items[i] (wipeR ρ vs) with
      | none =>
        rw [ht] at hgo
        rw [hgo] at G
        exact absurd G (fun z => z)
      | some ρ1 =>
        rw [ht] at hgo
        dsimp only at hgo
        intro σ2 Sg lg eg kg
        refine ⟨wipe_back eg fun j hj => (kg j fun z => hj (hts j z)).1, H0, _, ρ1, Sg, ?_⟩
        intro H3 s3
        rw [if_pos rfl]
        refine ⟨H0, _, ρ1, Sg.step s3, ?_⟩
        cases hel : elt ρ1 with
        | stuck =>
          rw [hel] at hgo
          rw [hgo] at G
          exact absurd G (fun z => z)
        | exc c =>
          rw [hel] at hgo
          rw [hgo] at G
          intro C H4 s4 eC
          exact G C H4 (s1.trans (sc.trans (sy.trans (s3.trans s4)))) eC
        | ok q =>
          rw [hel] at hgo
          dsimp only at hgo
          intro y H4 s4 r4
          have s34 := (sy.trans s3).trans s4
          have r4 : Rep K H4 (OO (fun b => O0 b ∨ b = D) σ2 ρ1) y q := r4
          refine ⟨ws, s34 _ _ hDc, by rw [rc.length]; omega, ?_⟩
          have nD : ∀ {b : Addr} {o : HO} {O : Addr → Prop}, O D → H4 b = some o → ¬ O b → upd H4 D (.lst (ws ++ [y])) b = some o ∧ ¬ O b := fun {b o O} hO h n => ⟨by rw [upd_ne (fun z => n (by rw [z]; exact hO))]; exact h, n⟩
          refine ⟨fun b o h => ?_, bump (Sc.step s34) (.inr rfl) hH0 (s34 _ _ hDc), ws ++ [y], ps ++ [q], upd_same, ?_, by rw [List.length_append]; simp; omega, ?_⟩
          · rw [upd_ne (ne_of_none h hD)]; exact s34 _ _ (sc _ _ h)
          · refine Reps.append ((rc.same s34).mono fun b o h n => nD OD h n) (.cons ?_ .nil)
            refine r4.mono fun b o h n => ?_
            have hb : b ≠ D := fun z => n (by rw [z]; exact .inl (.inr rfl))
            refine ⟨by rw [upd_ne hb]; exact h, fun z => ?_⟩
            rcases z with z | ⟨j, us, z1, z2⟩
            · exact n (.inl z)
            · have hj : j ∉ vs := fun hj => by
                have z3 : (wipeR ρ vs)[j]? = some (.own us) := z1
                have z4 : (wipe σ vs)[j]? = some (some (.ref b)) := z2
                rw [wipe_get, if_pos hj] at z4
                split at z4 <;> cases z4
              have kj := kg j fun z => hj (hts j z)
              exact n (.inr ⟨j, us, by rw [kj.2]; exact z1, by rw [kj.1]; exact z2⟩)
          · rw [hgo]
            cases lcGoE tgt elt (wipeR ρ vs) (items.drop (i + 1)) with
            | stuck => rfl
            | exc c => rfl
            | ok rs => show R.ok (ps ++ q :: rs) = R.ok (ps ++ [q] ++ rs); rw [List.append_assoc]; rfl
    · have e : i = items.length := by omega
      subst e
      rw [List.drop_length] at hgo
      have hgo : tot = .ok (ps ++ []) := hgo
      rw [List.append_nil] at hgo
      rw [hgo] at G
      refine .inl ⟨ok.stop _ Hc _ kept (Nat.le_refl _), G _ _ (s1.trans sc) (.inr ⟨D, ws, _, rfl, rfl, s1.free hD, hDc, rc.less fun a z => ?_⟩)⟩
      rcases z with z | z
      · rcases wipe_oo hn z with z | z
        · exact .inl (.inl z)
        · exact .inr z
      · rw [z]; exact OD
section
variable {X : Cx} {W : WX} {nw : Bool} {e tg it : Expr} {es : List Expr} {p pos : Pos} {fA : Rho → R (List PV)}
/-- y = [.. for ..], an exception of the element goes on -/
theorem s_setLcE {i : Nat} {y : Str} {py : Pos} {scope : Scope} {own : List (Str × Nat)} {spos : Pos} {wi : Rho → R (List PV)} {tgt : PV → Rho → Option Rho} {elt : Rho → R PV} {ts : List Nat} (hs0 : X.stack = X.env :: X.outer) (hf : X.env.frame = some X.env.locals) (tk : L2N.Takes X W) (hts : ∀ i ∈ ts, i ∈ own.map (·.2)) (hc : X.calm = true) (hN : X.N.Nodup) (hy : X.N[i]? = some y) (hyl : X.env.scope.names.lookup y = some .local)
    (hsw : swapsWith (.ListComp e [⟨tg, it, [], 0⟩] scope pos) (some (.Name y py)) spos.line X.env = pure true) (hi : IJ X W tg it wi) (ok : BlkOk X.N X.env.scope scope own)
    (hg : ∀ (s : Shared) (H : Hp) (C : Addr) (cl : List (Str × Addr)) (fp : List Addr), GJ (X.blk s H scope (compEnvC scope cl C X.env) fp) tg ts tgt)
    (he : ∀ (σ : St) (s : Shared) (H : Hp) (C : Addr) (cl : List (Str × Addr)) (fp : List Addr) (xe : Value → Shared → Prop), (∀ σ2, PassesAt (L2N.CX X.prog X.w) (L2N.blkE X s H scope (compEnvC scope cl C X.env) fp xe) σ2 (fun cls d H => W cls d σ H)) → EJ (L2N.blkE X s H scope (compEnvC scope cl C X.env) fp xe) (fun cls d _ H => W cls d σ H) .s e elt)
    (hs : ∀ x, foldedSetIterable it X.env x = pure x := by intro _; rfl) : SJ X W nw (.Assign [.Name y py] (.ListComp e [⟨tg, it, [], 0⟩] scope pos) spos) (sSet i (eLcE (own.map (·.2)) wi tgt elt)) := by
  refine ps_imp (L2N.ps_setLcX (te := fun σ => tE X.K X.mg (fun cls d _ H => W cls d σ H) .s elt) (g := tG X.K ts tgt) (tt := tT X.K X.mg WF cYes) hs0 hf tk hc hN hy hyl hsw hi ok hg (fun s H C cl fp => c_nil (X := X.blk s H scope (compEnvC scope cl C X.env) fp) (W := WF)) he hs) fun D σ H h => ?_
  refine q_set (te := fun σ H Q => tLc (tI X.K X.mg W wi) (tG X.K ts tgt) (tT X.K X.mg WF cYes) (tE X.K X.mg (fun cls d _ H => W cls d σ H) .s elt) (own.map (·.2)) σ H Q) (f := eLcE (own.map (·.2)) wi tgt elt) (fun σ H Q ⟨H0, O0, ρ, S, G⟩ => lc_runX hts σ H Q ⟨H0, O0, ρ, S, ?_⟩) D σ H h
  revert G
  cases eLcE (own.map (·.2)) wi tgt elt ρ with
  | ok p => exact fun G v H' s r => G v H' s (RepM.f_s S r)
  | exc c => exact fun G => G
  | stuck => exact fun G => G
/-- a call of a def in such an element -/
theorem e_callP {x : Str} {k j n : Nat} {F : List PV → R PV} {pn : List Str} {W0 : Value → Option Addr → Hp → Prop} (h : Okd X.prog X.w X.K X.mg X.base x pn j n false F) (hr : Room k X.A) (hjk : j ≤ k) (hx : ∀ σ, PassesAt (L2N.CX X.prog X.w) X σ W0) (hg : Gl X x) (ha : AJ X (fun cls d _ H => W0 cls d H) .s (e :: es) fA) (hal : ALen fA n) (hlen : n = es.length + 1 := by rfl) (hdb : (x == ("__debug__" : Str)) = false := by decide)
    (he : starEach (e :: es) X.env = (false, eval e X.env) :: starEach es X.env := by rfl) (hpl : (backTo pos (starEach es X.env)).any (·.1) = false := by rfl) : EJ X (fun cls d _ H => W0 cls d H) .s (.Call (.Name x p) (e :: es) [] pos) (eD F fA) := by
  obtain ⟨f, fd, h1, h2, h3, h4⟩ := h
  refine pe_imp (pe_callSD (E := fun _ => W0) (dvs := []) (ds := []) h4 (hr.mono hjk) hg h1 h2 h3 .nil hx ha hdb he hpl) fun σ H Q ⟨H0, O0, ρ, S, G⟩ => ⟨H0, O0, ρ, S, ?_⟩
  revert G
  unfold eD
  cases hA : fA ρ with
  | stuck => exact False.elim
  | exc c => exact id
  | ok ps =>
    intro G vs H1 s1 r1
    have rr := reps_of r1
    refine ⟨ps, OO O0 σ ρ, fun a z => (S.step s1).there z, by rw [List.append_nil]; exact rr, by rw [List.append_nil, rr.length, hal.ok ρ ps hA], ?_⟩
    revert G
    rw [R.bind_ok]
    cases F ps with
    | stuck => exact id
    | exc c => exact fun G C H' s' e => G C H' (s1.trans s') e
    | ok p => exact fun G v H' s' r' => G v H' (s1.trans s') r'
end
end PL
set_option Elab.async false
set_option linter.all false
set_option maxRecDepth 100000
set_option autoImplicit false
namespace L2X
open PySem PySem.Spec PyProof.Rows L2
abbrev St := L2.St
/-- k tells the context: None, or an object -/
def CtxK (k : Option (Addr × Obj)) : Obj → Prop := fun o => match k with
  | none => PXN.CtxN o
  | some q => ∀ vs : Array Value, o.data = .fields vs → vs[2]? = some (.ref q.1)
theorem steady_k (k : Option (Addr × Obj)) : PXN.Steady1 (CtxK k) := by
  cases k with
  | none => exact PXN.steady_ctx
  | some q =>
    intro o v h ws hw
    obtain ⟨o1, o2, o3, o4⟩ := o
    cases o3 with
    | fields us =>
      have e : us.setIfInBounds 1 v = ws := Data.fields.inj hw
      rw [← e, show (us.setIfInBounds 1 v)[2]? = us[2]? by simp [Array.getElem?_setIfInBounds]]
      exact h us rfl
    | _ => first | exact Data.noConfusion hw | cases hw
def Zk (k : Option (Addr × Obj)) (cls : Value) (d : Option Addr) : Obj → Prop := fun o => o.cls = cls ∧ o.dict = d ∧ CtxK k o
theorem Zk.steady {k : Option (Addr × Obj)} {cls : Value} {d : Option Addr} : PXN.Steady1 (Zk k cls d) := PXN.steady_and PXN.steady_cls (PXN.steady_and PXN.steady_dict (steady_k k))
/-- k's object stands in the ground, its own context is None -/
def Gk (G : Heap) (H : Hp) (k : Option (Addr × Obj)) : Prop := match k with
  | none => True
  | some q => G.get? q.1 = some q.2 ∧ H q.1 = none ∧ ∃ us : Array Value, q.2.data = .fields us ∧ us[2]? = some .none
def XE (X : Cx) (W : WX) (u : Value) (s' : Shared) : Prop :=
  ∃ (k : Option (Addr × Obj)) (x : Addr) (G : Heap) (t : Shared) (ps : List (Addr × Obj)) (τ : St) (H : Hp) (cls : Value) (d : Option Addr), u = .ref x ∧ Inv X ps τ H t ∧ (∀ b o, t.heap.get? b = some o → b ∉ frs X.stack → G.get? b = some o) ∧
    t.heap.UpToSlots s'.heap ∧ Sky G X.stack x (Zk k cls d) X.env.locals s'.heap ∧ H x = none ∧ Gk G H k ∧ s'.os = t.os ∧ AllBare s'.gens ∧ W cls d τ H
def Takes (X : Cx) (W : WX) : Prop := ∀ u s', XE X W u s' → X.xe u s'
theorem Takes.n {X : Cx} {W : WX} (tk : Takes X W) : L2N.Takes X W := fun u s' ⟨x, G, t, ps, τ, H, cls, d, e, I, nb, up, sky, na, os, ag, w⟩ =>
  tk u s' ⟨none, x, G, t, ps, τ, H, cls, d, e, I, nb, up, sky, na, trivial, os, ag, w⟩
def CX (P : Program) (w : World) (outer : List Env) (H : Hp) (s : Shared) (E : XK) (u : Value) (s' : Shared) : Prop :=
  ∃ (k : Option (Addr × Obj)) (x : Addr) (G : Heap) (H2 : Hp) (cls : Value) (d : Option Addr), u = .ref x ∧ HandSPX.FlyingZ G outer x (Zk k cls d) s'.heap ∧ HOk P w H2 G ∧ UB (frs outer) H H2 s.heap G s'.heap ∧ H2 x = none ∧ Gk G H2 k ∧ s'.os = s.os ∧ AllBare s'.gens ∧ E cls d H2
section
variable {X : Cx} {pins : List (Addr × Obj)} {σ : St} {H : Hp} {t s s' : Shared} {G : Heap} {W : WX} {E : XK}
theorem XE.of_call (I : Inv X pins σ H s) (hW : ∀ cls d H', E cls d H' → W cls d σ H') {u : Value} (c : CX X.prog X.w X.stack H s E u s') : XE X W u s' := by
  obtain ⟨k, x, B, H2, cls, d, rfl, fl, hok, ub, na, gk, os, ag, hE⟩ := c
  obtain ⟨G, gB, gF, gO⟩ := L2N.groundOf fl.1 (frs X.stack)
  have slot : ∀ b o, s.heap.get? b = some o → b ∈ frs X.stack → ∃ sl, G.get? b = some { o with slots := sl } := fun b o e m => (ub.slot b o e m).elim fun sl q => ⟨sl, (gF b m).trans q⟩
  have J : Inv X pins σ H2 { s with heap := G, gens := s'.gens, drawn := s'.drawn, toks := s'.toks } := by
    refine I.call (ch := []) ?_ (hok.kept gB) ag (fun _ z => nomatch z)
    refine { keep := fun b o e n m _ => gB b o (ub.keep b o e n m), slot := fun b o e _ m _ => slot b o e m, free := fun b o e n _ => ub.free b o e n, there := fun b o e _ => ?_, tups := ub.tups, frzs := ub.frzs, tbls := ub.tbls }
    by_cases m : b ∈ frs X.stack
    · exact (slot b o e m).elim fun sl q => ⟨_, q⟩
    · exact (ub.there b o e m).elim fun o2 q => ⟨o2, gB b o2 q⟩
  exact ⟨k, x, B, _, pins, σ, H2, cls, d, rfl, J, fun b o e m => (gO b o e).2 m, Heap.UpToSlots.of_keeps fun b o e => (gO b o e).1, .inr (.inl fl), na, gk, os, ag, hW _ _ _ hE⟩
/-- it leaves the def -/
theorem XE.leave (hs : X.stack = X.env :: X.outer) (hf : X.env.frame = some X.env.locals) (hex : X.ex = []) {E₁ : Value → Shared → Prop} (hW : ∀ cls d τ H, W cls d τ H → E cls d H) {u : Value} (x : XE X W u s') :
    wpAny (model X.prog X.w) X.A (leaving X.env u) (fun _ s2 => CX X.prog X.w X.outer X.H_0 X.s_0 E u s2) E₁ s' := by
  obtain ⟨k, x, G, t, ps, τ, H, cls, d, rfl, I, nb, up, sky, na, gk, os, ag, w⟩ := x
  have fr : X.A.frames = some (X.env :: X.outer) := I.ok.frames.trans (congrArg some hs)
  have out : ∀ b o, X.s_0.heap.get? b = some o → b ∉ X.fs → b ∉ frs X.stack := fun b o e n m => (List.mem_cons.mp (I.stkSub b m)).elim (fun z => by
    have l := Nat.lt_of_lt_of_le (Heap.lt_size e) I.ok.above
    rw [z] at l
    exact Nat.lt_irrefl _ l) n
  have free : ∀ b, b ∉ X.ex := fun b m => by rw [hex] at m; cases m
  have done : ∀ h2, HandSPX.FlyingZ G X.outer x (Zk k cls d) h2 → s'.heap.UpToSlots h2 → CX X.prog X.w X.outer X.H_0 X.s_0 E (.ref x) { s' with heap := h2 } := fun h2 fl up2 => by
    refine ⟨k, x, G, H, cls, d, rfl, fl, I.inGround nb, { keep := fun b o e n m => nb b o (I.base.keep b o e n m (free b)) (out b o e m), slot := fun b o e m => ?_, free := fun b o e n => I.base.free b o e n (free b), there := fun b o e m => ?_, tups := I.base.tups, frzs := I.base.frzs, tbls := I.base.tbls }, na, gk, os.trans I.os, ag, hW _ _ _ _ w⟩
    · obtain ⟨_, o2, e2, nf⟩ := I.ok.funs.mem m
      cases e.symm.trans e2
      obtain ⟨l1, q1⟩ := I.base.slot b o e (I.ok.frf b m) m (free b)
      obtain ⟨l2, q2⟩ := up b _ q1 nf
      exact (up2 b _ q2 nf).elim fun l3 q3 => ⟨l3, q3⟩
    · exact (I.base.there b o e (free b)).elim fun o2 q => ⟨o2, nb b o2 q (out b o e m)⟩
  rw [hs] at sky
  rcases sky with ⟨g1, g2, g3, oe, us, e1, e2, e3, e4⟩ | fl | hh
  · exact PXN.leaving_firstZ Zk.steady fr g3 hf e1 g1 g2 e3 e4 e2 done
  · exact PXN.leaves_onZ Zk.steady fr hf fl done
  · exact HandSPX.leaves_heldZ hf hh done
theorem takes_of (hs : X.stack = X.env :: X.outer) (hf : X.env.frame = some X.env.locals) (hex : X.ex = []) {E₁ : Value → Shared → Prop} (hx : X.xe = fun e s1 => wpAny (model X.prog X.w) X.A (leaving X.env e) (fun _ s2 => CX X.prog X.w X.outer X.H_0 X.s_0 E e s2) E₁ s1) :
    Takes X (fun cls d _ H => E cls d H) := fun u s1 x => by
  rw [hx]
  exact XE.leave (W := fun cls d _ H => E cls d H) (E := E) hs hf hex (fun _ _ _ _ h => h) x
theorem passAt (tk : Takes X W) (τ : St) : PassesAt (CX X.prog X.w) X τ (WE W τ) := fun _ _ _ u s1 I c => tk u s1 (XE.of_call I (fun _ _ _ h => h) c)
theorem XE.new {k : Option (Addr × Obj)} {x : Addr} {oe : Obj} {us : Array Value} {cls : Value} {d : Option Addr} (I : Inv X pins σ H t) (kp : ∀ b o, t.heap.get? b = some o → s'.heap.get? b = some o) (nx : t.heap.get? x = none) (hx : s'.heap.get? x = some oe) (z : Zk k cls d oe)
    (dx : oe.data = .fields us) (u1 : us[1]? = some .none) (na : H x = none) (gk : Gk (PySem.W.hideAll t.heap (frs X.stack)) H k) (os : s'.os = t.os) (ag : AllBare s'.gens) (w : W cls d σ H) : XE X W (.ref x) s' := by
  have hid : ∀ b o, (PySem.W.hideAll t.heap (frs X.stack)).get? b = some o → t.heap.get? b = some o := fun b o e => PySem.W.of_hideAll _ e
  refine ⟨k, x, _, t, pins, σ, H, cls, d, rfl, I, fun b o e m => PySem.W.hideAll_get _ e m, Heap.UpToSlots.of_keeps kp, .inl ⟨fun b o e => kp b o (hid b o e), ?_, ?_, oe, us, hx, z, dx, u1⟩, na, gk, os, ag, w⟩
  · cases q : (PySem.W.hideAll t.heap (frs X.stack)).get? x with
    | none => rfl
    | some o => cases nx.symm.trans (hid x o q)
  · exact Heap.FunFrames.of_keeps (fun b o e _ => ⟨o, kp b o e, rfl⟩) (funFrames_none I.stack fun b m => PySem.W.hideAll_none _ m)
end
/-- raise X(..) in an except suite -/
theorem ps_raise {X : Cx} {W : WX} {e : Expr} {te : St → Hp → XK → Prop} {pos : Pos} {p : Addr × Obj} (hot : L2H.Hot1 X.A p) (hp : p ∈ X.pn) (tk : Takes X W) (he : L2N.PMk X e te) : PS X (.Raise (some e) none pos) (fun _ τ H => te τ H fun cls d H2 => W cls d τ H2) := by
  refine ⟨fun pins s σ H D I h => ?_⟩
  obtain ⟨hh, us1, e1, c1⟩ := hot
  show wpAny _ _ (do standAt pos; raiseStmt X.env (some (do let v ← eval e X.env; standAt pos; pure v)) none) _ _ _
  refine wpAny_bind (wpAny_standAt (HotX.raise_made_hot (x1 := p.1) (wpAny_bind (wpAny_mono (he pins s σ H _ I h) (fun u s1 hu => wpAny_bind (wpAny_standAt (wpAny_pure ?_))) fun _ _ z => z))))
  obtain ⟨x, oe, us, t, H2, cls, d, rfl, J, kp, nx, hx, hz, dx, u1, na, os, ag, r, q⟩ := hu
  obtain ⟨r1, r2⟩ := r (model X.prog X.w) s1.heap (J.kIn.keeps kp)
  obtain ⟨P1, P2, P3, P4, _⟩ := J.pin p (List.mem_append_left _ hp)
  have px : p.1 ≠ x := fun z => by rw [z, nx] at P1; cases P1
  have u2 : 2 < us.size := (Array.getElem?_eq_some_iff.mp (hz.2.2 us dx)).1
  have nfr : p.1 ∉ frs X.stack := fun m => (List.mem_cons.mp (J.stkSub p.1 m)).elim P3 P4
  have d2 := Obj.data_mapFields dx (·.setIfInBounds 2 (Value.ref p.1))
  refine ⟨x, oe, us, cls, rfl, hx, hz.1, dx, u1, u2, px, ⟨hh, p.2, us1, kp _ _ P1, e1, c1⟩, r1, r2, tk _ _ (XE.new (k := some p) J (fun b o z => ?_) nx (Heap.get?_update_self _ hx (Obj.isFreed_of_fields d2)) ⟨(Obj.cls_mapFields ..).trans hz.1, (HandSPX.dict_mapFields ..).trans hz.2.1, fun ws hw => ?_⟩ d2 ?_ na ⟨PySem.W.hideAll_get _ P1 nfr, P2, us1, e1, c1⟩ os ag q)⟩
  · have xb : x ≠ b := fun y => by rw [← y, nx] at z; cases z
    exact (Heap.get?_update_other _ _ xb).trans (kp b o z)
  · cases d2.symm.trans hw
    simp [u2]
  · rw [show (us.setIfInBounds 2 (Value.ref p.1))[1]? = us[1]? by simp [Array.getElem?_setIfInBounds]]
    exact u1
/-- a record that stands is no frame -/
theorem noFr {B h : Heap} {x : Addr} {o : Obj} {us : Array Value} {l : List Env} (ff : h.FunFrames B l) (e : h.get? x = some o) (d : o.data = .fields us) : x ∉ frs l := fun m => by
  obtain ⟨_, o2, e2, nf⟩ := ff.mem m
  cases e.symm.trans e2
  exact nf us d
section
variable {X : Cx} {pins : List (Addr × Obj)} {σ : St} {H : Hp} {s : Shared}
/-- the suite's state: the caught one and its context are pinned -/
theorem inSuite (I : Inv X pins σ H s) {p q : Addr × Obj} (hp : s.heap.get? p.1 = some p.2 ∧ H p.1 = none ∧ p.1 ∉ frs (X.env :: X.outer) ∧ ∃ us : Array Value, p.2.data = .fields us) (hq : s.heap.get? q.1 = some q.2 ∧ H q.1 = none ∧ q.1 ∉ frs (X.env :: X.outer) ∧ ∃ us : Array Value, q.2.data = .fields us)
    (hf : X.env.frame = some X.env.locals) : Inv (X.suite p.1 (p :: q :: (X.pn ++ pins))) [] σ H s := by
  have one : ∀ r : Addr × Obj, s.heap.get? r.1 = some r.2 ∧ H r.1 = none ∧ r.1 ∉ frs (X.env :: X.outer) ∧ (∃ us : Array Value, r.2.data = .fields us) → s.heap.get? r.1 = some r.2 ∧ H r.1 = none ∧ r.1 ≠ X.env.locals ∧ r.1 ∉ X.fs ∧ ∀ v, r.2.data ≠ .cell v := fun r ⟨h1, h2, h3, us, h4⟩ =>
    ⟨h1, h2, fun z => h3 (List.mem_filterMap.mpr ⟨X.env, List.mem_cons_self, by rw [hf, z]⟩), fun m => by
      obtain ⟨en, m1, m2⟩ := List.mem_filterMap.mp m
      exact h3 (List.mem_filterMap.mpr ⟨en, List.mem_cons_of_mem _ m1, m2⟩), fun v z => by rw [h4] at z; cases z⟩
  refine { ok := I.ok.suite _ _, os := I.os, bare := I.bare, base := I.base, loc := I.loc, cell := I.cell, free := I.free, freeC := I.freeC, pin := fun r hr => ?_, hok := I.hok, len := I.len }
  rw [List.append_nil] at hr
  rcases List.mem_cons.mp hr with z | hr
  · rw [z]; exact one p hp
  · rcases List.mem_cons.mp hr with z | hr
    · rw [z]; exact one q hq
    · exact I.pin r hr
theorem outSuite {a : Addr} {p q : Addr × Obj} {pn : List (Addr × Obj)} (I : Inv (X.suite a (p :: q :: (X.pn ++ pins))) pn σ H s) (ok : X.Ok) : Inv X pins σ H s :=
  { ok := ok, os := I.os, bare := I.bare, base := I.base, loc := I.loc, cell := I.cell, free := I.free, freeC := I.freeC, pin := fun r hr => I.pin r (List.mem_append_left _ (List.mem_cons_of_mem _ (List.mem_cons_of_mem _ hr))), hok := I.hok, len := I.len }
end
section
variable {X : Cx} {x : Str} {c : Value} {body suite orelse : List Stmt} {b₀ : Stmt} {np pos pos' : Pos} {tb : WX → TS} {ts u : TS} {Wout : WX}
/-- try: body, except x: suite (that may raise), else: orelse -/
theorem ps_tryR (ho : PSs X orelse u) (hs : X.stack = X.env :: X.outer) (hf : X.env.frame = some X.env.locals) (hc : Names X x c) (hpa : ∀ hd : Option Value, PassesOwnAt (model X.prog X.w) (X.A.mark hd) X.A X.env X.xe) (tk : Takes X Wout)
    (hb : ∀ (W : WX) (pn : List (Addr × Obj)) (xe : Value → Shared → Prop), L2N.Takes (X.tr pn xe) W → PassesOwn (model X.prog X.w) X.A X.env xe → PSs (X.tr pn xe) body (tb W))
    (hsu : ∀ (p : Addr × Obj) (pn : List (Addr × Obj)), L2H.Hot1 (X.A.mark (some (.ref p.1))) p → Takes (L2H.suiteX X p.1 (p :: pn)) Wout → PSs (L2H.suiteX X p.1 (p :: pn)) (b₀ :: suite) ts) :
    PS X (.Try body [.ExceptHandler (some (.Name x np)) none (b₀ :: suite) pos'] orelse [] pos) (fun D σ H => tb (fun cls _ τ H2 => PySem.W.exmOne X.K cls c = some true ∧ ts D τ H2) { D with nx := u D } σ H) := by
  refine ⟨fun pins s σ H D I h => ?_⟩
  have ok := I.ok
  have fr : X.A.frames = some (X.env :: X.outer) := ok.frames.trans (congrArg some hs)
  obtain ⟨xe, hxe⟩ : ∃ xe : Value → Shared → Prop, xe = fun e1 t1 => wpAny (model X.prog X.w) X.A (noteFrame e1 X.env) (fun _ t2 => wpAny (model X.prog X.w) X.A (setFlight e1 none) (fun _ t3 => wpAny (model X.prog X.w) X.A (handleBy e1 X.env [.ExceptHandler (some (.Name x np)) none (b₀ :: suite) pos']) (SP X pins D) X.xe t3) X.xe t2) X.xe t1 := ⟨_, rfl⟩
  refine wpAny_Try_except (wpAny_mono ((hb _ (X.pn ++ pins) xe (fun v t0 y => ?_) (by rw [hxe]; exact PassesOwn.looking)).run [] s σ H { D with nx := u D } (I.toTry _) h) (fun f s1 hsp => ?_) (fun e1 t1 he => by rw [hxe] at he; exact he))
  · obtain ⟨a, B, t, pn, τ, H2, cls, d, rfl, J', nb, up, sky, na, os, ag, hm, hts⟩ := y
    have J : Inv X pins τ H2 t := J'.ofTry ok
    have sky2 : Sky B (X.env :: X.outer) a (L2N.Zn cls d) X.env.locals t0.heap := hs ▸ sky
    rw [hxe]
    refine L2N.Sky.land L2N.Zn.steady fr hf sky2 fun h3 f3 up3 => ?_
    have J3 : Inv X pins τ H2 { t0 with heap := h3 } := J.landed nb f3.1 (up.trans up3) os ag
    obtain ⟨o3, us3, g3, z3, d3⟩ := f3.there
    have n3 := noFr f3.2.2.1 g3 d3
    have S3 := inSuite J3 (p := (a, o3)) (q := (a, o3)) ⟨g3, na, n3, us3, d3⟩ ⟨g3, na, n3, us3, d3⟩ hf
    refine wpAny_handleBy_cons (codeAny_handlers_test ?_) (fun z => nomatch z)
    have L1 : PySem.W.Looks (model X.prog X.w) h3 (typeOf (.ref a)) cls := fun A1 Q1 E1 t1 kp q => wpAny_typeOf_ref (kp _ _ g3) (by rw [z3.1]; exact q)
    have L2' := PySem.W.exm_one (M := model X.prog X.w) J3.kIn L1 hm
    have tst : ∀ {Q E : Value → Shared → Prop}, Q c { t0 with heap := h3 } → wpAny (model X.prog X.w) (X.A.mark (some (.ref a))) (eval (.Name x np) X.env) Q E { t0 with heap := h3 } := fun {Q E} q => by
      obtain ⟨n1, n2, n3 | ⟨n3, n4, n5⟩⟩ := hc
      · exact ld_glob (X := X.suite a ((a, o3) :: (a, o3) :: (X.pn ++ pins))) S3 n1 n3 q n2
      · exact ld_blt (X := X.suite a ((a, o3) :: (a, o3) :: (X.pn ++ pins))) S3 n1 n3 n4 q n5 n2
    refine tst (L2'.here (codeAny_handlers_suite (HandSPX.lands_againZ f3 fun h4 f4 up4 => ?_)))
    have J4 : Inv X pins τ H2 { t0 with heap := h4 } := J.landed nb f4.1 ((up.trans up3).trans up4) os ag
    obtain ⟨o4, us4, g4, z4, d4⟩ := f4.there
    have n4 := noFr f4.2.2.1 g4 d4
    have S4 := inSuite J4 (p := (a, o4)) (q := (a, o4)) ⟨g4, na, n4, us4, d4⟩ ⟨g4, na, n4, us4, d4⟩ hf
    have tkS : Takes (L2H.suiteX X a ((a, o4) :: (a, o4) :: (X.pn ++ pins))) Wout := fun v5 t5 y5 => by
      obtain ⟨k5, x5, G5, T5, pn5, τ5, H5, c5, d5, e5, I5, nb5, up5, sky5, na5, gk5, os5, ag5, w5⟩ := y5
      have I5' : Inv X pins τ5 H5 T5 := outSuite (X := X) (a := a) (p := (a, o4)) (q := (a, o4)) (show Inv (X.suite a ((a, o4) :: (a, o4) :: (X.pn ++ pins))) pn5 τ5 H5 T5 from I5.wish fun _ _ => False) ok
      exact tk v5 t5 ⟨k5, x5, G5, T5, pins, τ5, H5, c5, d5, e5, I5', nb5, up5, sky5, na5, gk5, os5, ag5, w5⟩
    have back : ∀ {pn6 : List (Addr × Obj)} {τ6 : St} {H6 : Hp} {t6 : Shared}, Inv (L2H.suiteX X a ((a, o4) :: (a, o4) :: (X.pn ++ pins))) pn6 τ6 H6 t6 → Inv X pins τ6 H6 t6 := fun {pn6 τ6 H6 t6} I6 =>
      outSuite (X := X) (a := a) (p := (a, o4)) (q := (a, o4)) (show Inv (X.suite a ((a, o4) :: (a, o4) :: (X.pn ++ pins))) pn6 τ6 H6 t6 from I6.wish fun _ _ => False) ok
    refine wpAny_mono ((hsu (a, o4) ((a, o4) :: (X.pn ++ pins)) ⟨rfl, us4, d4, z4.2.2 us4 d4⟩ tkS).run [] _ τ H2 D (L2H.suiteX_of S4) hts) (fun f t6 hsp => ?_) (fun v6 t6 z => hpa (some (.ref a)) v6 t6 z)
    cases f with
    | next => exact hsp.elim fun τ6 z => z.elim fun H6 z => ⟨τ6, H6, back z.1, z.2⟩
    | brk => exact hsp.elim fun τ6 z => z.elim fun H6 z => ⟨τ6, H6, back z.1, z.2⟩
    | cont => exact hsp.elim fun τ6 z => z.elim fun H6 z => ⟨τ6, H6, back z.1, z.2⟩
    | ret v => exact hsp.elim fun v6 z => z.elim fun τ6 z => z.elim fun H6 z => ⟨v6, τ6, H6, back z.1, z.2.1, z.2.2⟩
  · cases f with
    | next => exact hsp.elim fun τ6 z => z.elim fun H6 z => ho.run pins s1 τ6 H6 D (z.1.ofTry ok) z.2
    | brk => exact hsp.elim fun τ6 z => z.elim fun H6 z => ⟨τ6, H6, z.1.ofTry ok, z.2⟩
    | cont => exact hsp.elim fun τ6 z => z.elim fun H6 z => ⟨τ6, H6, z.1.ofTry ok, z.2⟩
    | ret v => exact hsp.elim fun v6 z => z.elim fun τ6 z => z.elim fun H6 z => ⟨v6, τ6, H6, z.1.ofTry ok, z.2.1, z.2.2⟩
end
end L2X
set_option Elab.async false
set_option linter.all false
set_option maxRecDepth 100000
set_option autoImplicit false
namespace L2X
open PySem PySem.Spec PyProof.Rows L2
/-- p's object is the exception that is handled, its context is None or q's object, whose context is None -/
def Hot2 (A : Around) (p q : Addr × Obj) : Prop := A.handled = some (.ref p.1) ∧ ∃ us : Array Value, p.2.data = .fields us ∧ (us[2]? = some .none ∨ (q.1 ≠ p.1 ∧ us[2]? = some (.ref q.1) ∧ ∃ ws : Array Value, q.2.data = .fields ws ∧ ws[2]? = some .none))
def HotK (A : Around) (x1 : Addr) (h : Heap) : Prop := A.handled = some (.ref x1) ∧ ∃ (o : Obj) (us : Array Value), h.get? x1 = some o ∧ o.data = .fields us ∧
  (us[2]? = some .none ∨ ∃ (x0 : Addr) (o0 : Obj) (ws : Array Value), x0 ≠ x1 ∧ us[2]? = some (.ref x0) ∧ h.get? x0 = some o0 ∧ o0.data = .fields ws ∧ ws[2]? = some .none)
section
variable {prog : Program} {w : World} {A A1 : Around} {E : Value → Shared → Prop} {s : Shared}
theorem HotK.keeps {x1 : Addr} {h h2 : Heap} (hot : HotK A x1 h) (kp : ∀ b o, h.get? b = some o → h2.get? b = some o) : HotK A x1 h2 := by
  obtain ⟨hh, o, us, g1, d1, c⟩ := hot
  exact ⟨hh, o, us, kp _ _ g1, d1, c.imp id fun ⟨x0, o0, ws, n, c, g0, z⟩ => ⟨x0, o0, ws, n, c, kp _ _ g0, z⟩⟩
theorem ref_eqF {a b : Addr} (h : a ≠ b) : ¬ ((Value.ref a == Value.ref b) = true) := fun z => h (Value.ref.inj (eq_of_beq z))
/-- the chain of two ends -/
theorem unchainK {x1 a : Addr} {h0 : Heap} {Q : Value → Shared → Prop} (hot : HotK A1 x1 h0) (kp : ∀ b o, h0.get? b = some o → s.heap.get? b = some o) (na : h0.get? a = none) (q : Q .none s) :
    wpAny (model prog w) A (holding [Value.ref a] (runValue (.builtin "proto.unchain" ⟨[.ref a, .ref x1, .ref x1, .bool false], []⟩))) Q E s := by
  obtain ⟨_, o, us, g1, d1, c | ⟨x0, o0, ws, ne, c, g0, d0, c0⟩⟩ := hot
  · exact HotX.unchained (kp _ _ g1) d1 c q
  have n0a : x0 ≠ a := fun z => by rw [z, na] at g0; cases g0
  refine wpAny_holding (wpAny_runValue (codeAny_builtin HotX.entry_unchain ?_))
  show wpAny _ _ (field (.ref x1) 2 >>= _) _ _ s
  refine wpAny_bind (wpAny_field (kp _ _ g1) d1 c ?_)
  rw [if_neg (show ¬ ((Value.ref x0 == Value.none) = true) from by simp)]
  rw [if_neg (ref_eqF n0a), if_neg (ref_eqF ne)]
  dsimp only
  rw [if_neg Bool.false_ne_true]
  refine wpAny_bind (wpAny_pure (wpAny_pure ⟨plainId_quiet (by decide +kernel) _, codeAny_builtin HotX.entry_unchain ?_⟩))
  show wpAny _ _ (field (.ref x0) 2 >>= _) _ _ s
  refine wpAny_bind (wpAny_field (kp _ _ g0) d0 c0 ?_)
  rw [if_pos (show (Value.none == Value.none) = true from rfl)]
  first
  | exact wpAny_bind (wpAny_pure (wpAny_pure q))
  | exact wpAny_pure q
theorem raiseK {α : Type} {a x1 : Addr} {oe : Obj} {us : Array Value} {h0 : Heap} {Q : α → Shared → Prop} (hot : HotK A x1 h0) (kp : ∀ b o, h0.get? b = some o → s.heap.get? b = some o) (na : h0.get? a = none) (ga : s.heap.get? a = some oe) (da : oe.data = .fields us) (hi : 2 < us.size)
    (hE : E (.ref a) { s with heap := s.heap.update a (Obj.mapFields (·.setIfInBounds 2 (.ref x1))) }) : wpAny (model prog w) A (raiseNew (.ref a) : Sem α) Q E s := by
  have n1 : x1 ≠ a := fun z => by
    obtain ⟨_, o, _, g1, _⟩ := hot
    rw [z, na] at g1
    cases g1
  unfold raiseNew
  refine wpAny_bind (wpAny_handled ?_)
  rw [hot.1]
  first
  | (show wpAny _ _ (if (Value.ref x1 != Value.ref a) = true then _ else _) _ _ _
     rw [if_pos (HotX.ref_bne n1)]
     first
     | exact wpAny_bind (unchainK hot kp na (wpAny_bind (HotX.chained ga da hi (wpAny_throw hE))))
     | exact wpAny_bind (wpAny_bind (unchainK hot kp na (HotX.chained ga da hi (wpAny_throw hE)))))
  | (refine wpAny_bind ?_
     show wpAny _ _ (if (Value.ref x1 != Value.ref a) = true then _ else _) _ _ _
     rw [if_pos (HotX.ref_bne n1)]
     exact wpAny_bind (unchainK hot kp na (HotX.chained ga da hi (wpAny_throw hE))))
end
section
variable {X : Cx} {x n : Str} {c : Value} {i : Nat} {body suite : List Stmt} {b₀ : Stmt} {np pos pos' : Pos} {tb : WX → TS} {ts : Addr → Value → Option Addr → TS}
/-- try: body, except x as n: suite; the caught one may have a context -/
theorem ps_tryA (hs : X.stack = X.env :: X.outer) (hf : X.env.frame = some X.env.locals) (hN : X.N.Nodup) (hi : X.N[i]? = some n) (hln : X.env.kindOf n = some .local) (hc : Names X x c)
    (hb : ∀ (W : WX) (pn : List (Addr × Obj)) (xe : Value → Shared → Prop), Takes (X.tr pn xe) W → PassesOwn (model X.prog X.w) X.A X.env xe → PSs (X.tr pn xe) body (tb W))
    (hsu : ∀ (p q : Addr × Obj) (cls : Value) (d : Option Addr) (pn : List (Addr × Obj)), Zc cls d p.2 → (∃ us, p.2.data = .fields us) → Hot2 (X.A.mark (some (.ref p.1))) p q → PSs (X.suite p.1 (p :: q :: pn)) (b₀ :: suite) (ts p.1 cls d)) :
    PS X (.Try body [.ExceptHandler (some (.Name x np)) (some n) (b₀ :: suite) pos'] [] [] pos) (fun D σ H => tb (wAs X.K c i ts (fun _ _ _ _ => False) D) D σ H) := by
  refine ⟨fun pins s σ H D I h => ?_⟩
  have ok := I.ok
  have fr : X.A.frames = some (X.env :: X.outer) := ok.frames.trans (congrArg some hs)
  obtain ⟨xe, hxe⟩ : ∃ xe : Value → Shared → Prop, xe = fun e1 t1 => wpAny (model X.prog X.w) X.A (noteFrame e1 X.env) (fun _ t2 => wpAny (model X.prog X.w) X.A (setFlight e1 none) (fun _ t3 => wpAny (model X.prog X.w) X.A (handleBy e1 X.env [.ExceptHandler (some (.Name x np)) (some n) (b₀ :: suite) pos']) (SP X pins D) X.xe t3) X.xe t2) X.xe t1 := ⟨_, rfl⟩
  refine wpAny_Try_except (wpAny_mono ((hb (wAs X.K c i ts (fun _ _ _ _ => False) D) (X.pn ++ pins) xe (fun v t0 y => ?_) (by rw [hxe]; exact PassesOwn.looking)).run [] s σ H D (I.toTry _) h) (fun f s1 hsp => ?_) (fun e1 t1 he => by rw [hxe] at he; exact he))
  · obtain ⟨k, a, B, t, pn, τ, H2, cls, d, rfl, J', nb, up, sky, na, gk, os, ag, b, hm, hyes, hno⟩ := y
    cases b with
    | false => exact (hno rfl).elim
    | true =>
    have J : Inv X pins τ H2 t := J'.ofTry ok
    have sky2 : Sky B (X.env :: X.outer) a (Zk k cls d) X.env.locals t0.heap := hs ▸ sky
    rw [hxe]
    refine L2N.Sky.land Zk.steady fr hf sky2 fun h3 f3 up3 => ?_
    have J3 : Inv X pins τ H2 { t0 with heap := h3 } := J.landed nb f3.1 (up.trans up3) os ag
    obtain ⟨o3, us3, g3, z3, d3⟩ := f3.there
    have n3 := noFr f3.2.2.1 g3 d3
    have S3 := inSuite J3 (p := (a, o3)) (q := (a, o3)) ⟨g3, na, n3, us3, d3⟩ ⟨g3, na, n3, us3, d3⟩ hf
    refine wpAny_handleBy_cons (codeAny_handlers_test ?_) (fun z => nomatch z)
    have L1 : PySem.W.Looks (model X.prog X.w) h3 (typeOf (.ref a)) cls := fun A1 Q1 E1 t1 kp q => wpAny_typeOf_ref (kp _ _ g3) (by rw [z3.1]; exact q)
    have L2' := PySem.W.exm_one (M := model X.prog X.w) J3.kIn L1 hm
    have tst : ∀ {Q E : Value → Shared → Prop}, Q c { t0 with heap := h3 } → wpAny (model X.prog X.w) (X.A.mark (some (.ref a))) (eval (.Name x np) X.env) Q E { t0 with heap := h3 } := fun {Q E} q => by
      obtain ⟨n1, n2, n3 | ⟨n3, n4, n5⟩⟩ := hc
      · exact ld_glob (X := X.suite a ((a, o3) :: (a, o3) :: (X.pn ++ pins))) S3 n1 n3 q n2
      · exact ld_blt (X := X.suite a ((a, o3) :: (a, o3) :: (X.pn ++ pins))) S3 n1 n3 n4 q n5 n2
    refine tst (L2'.here (codeAny_handlers_suite_as (HandSPX.lands_againZ f3 fun h4 f4 up4 => ?_)))
    have J4 : Inv X pins τ H2 { t0 with heap := h4 } := J.landed nb f4.1 ((up.trans up3).trans up4) os ag
    obtain ⟨o4, us4, g4, z4, d4⟩ := f4.there
    have n4 := noFr f4.2.2.1 g4 d4
    obtain ⟨q, hq, hot⟩ : ∃ q : Addr × Obj, (h4.get? q.1 = some q.2 ∧ H2 q.1 = none ∧ q.1 ∉ frs (X.env :: X.outer) ∧ ∃ us : Array Value, q.2.data = .fields us) ∧ Hot2 (X.A.mark (some (.ref a))) (a, o4) q := by
      cases k with
      | none => exact ⟨(a, o4), ⟨g4, na, n4, us4, d4⟩, rfl, us4, d4, .inl (z4.2.2 us4 d4)⟩
      | some q =>
        obtain ⟨k1, k2, ws, k3, k4⟩ := gk
        have k5 := f4.1 _ _ k1
        refine ⟨q, ⟨k5, k2, noFr f4.2.2.1 k5 k3, ws, k3⟩, rfl, us4, d4, .inr ⟨fun z => ?_, z4.2.2 us4 d4, ws, k3, k4⟩⟩
        have z : q.1 = a := z
        have := f4.2.1
        rw [z, this] at k1
        cases k1
    have S4 := inSuite J4 (p := (a, o4)) (q := q) ⟨g4, na, n4, us4, d4⟩ hq hf
    refine store_ok (X := X.suite a ((a, o4) :: q :: (X.pn ++ pins))) (v := .ref a) S4 hN hi (.inl hln) rfl (fun t5 S5 => ?_) (.inr hln)
    refine wpAny_mono ((hsu (a, o4) q cls d (X.pn ++ pins) ⟨z4.1, z4.2.1⟩ ⟨us4, d4⟩ hot).run [] t5 _ H2 _ S5 (hyes rfl a na)) (fun f t6 hsp => ?_) (fun _ _ z => z.elim)
    have fin : ∀ {τ6 : St} {H6 : Hp} {Q : Shared → Prop}, Inv (X.suite a ((a, o4) :: q :: (X.pn ++ pins))) [] τ6 H6 t6 → (∀ t7, Inv X pins (τ6.set i none) H6 t7 → Q t7) →
        wpAny (model X.prog X.w) X.A (do bindName X.env n .none; unbindBehindTheSuite X.env n pos') (fun _ t7 => Q t7) X.xe t6 := fun {τ6 H6 Q} S6 hq => gone_ok (outSuite S6 ok) hN hi hln hq
    cases f with
    | next => exact hsp.elim fun τ6 z => z.elim fun H6 z => fin z.1 fun t7 J7 => ⟨_, _, J7, z.2⟩
    | brk => exact hsp.elim fun τ6 z => z.elim fun H6 z => fin z.1 fun t7 J7 => ⟨_, _, J7, z.2⟩
    | cont => exact hsp.elim fun τ6 z => z.elim fun H6 z => fin z.1 fun t7 J7 => ⟨_, _, J7, z.2⟩
    | ret v => exact hsp.elim fun v6 z => z.elim fun τ6 z => z.elim fun H6 z => fin z.1 fun t7 J7 => ⟨_, _, _, J7, z.2.1, z.2.2⟩
  · cases f with
    | next => exact hsp.elim fun τ6 z => z.elim fun H6 z => wpAny_execs_nil ⟨τ6, H6, z.1.ofTry ok, z.2⟩
    | brk => exact hsp.elim fun τ6 z => z.elim fun H6 z => ⟨τ6, H6, z.1.ofTry ok, z.2⟩
    | cont => exact hsp.elim fun τ6 z => z.elim fun H6 z => ⟨τ6, H6, z.1.ofTry ok, z.2⟩
    | ret v => exact hsp.elim fun v6 z => z.elim fun τ6 z => z.elim fun H6 z => ⟨v6, τ6, H6, z.1.ofTry ok, z.2.1, z.2.2⟩
end
end L2X
set_option Elab.async false
set_option linter.all false
set_option maxRecDepth 100000
set_option autoImplicit false
namespace PL
open PySem PySem.Spec L2
open PyProof.Rows hiding St
section
variable {X : Cx} {W : WX} {nw : Bool} {pos : Pos}
/-- raise X("..") in an except suite -/
theorem s_raiseX {x m : Str} {C : Addr} {j : Nat} {p p2 p3 : Pos} {q : Addr × Obj} (T : ExcT X.K X.mg x C) (hot : L2H.Hot1 X.A q) (hq : q ∈ X.pn) (tk : L2X.Takes X W) (hg : Gl X x) (hdb : (x == ("__debug__" : Str)) = false := by decide) : SJ X W nw (.Raise (some (.Call (.Name x p) [.Constant (.str m) j p2] [] p3)) none pos) (sRaise x) := by
  refine ps_imp (L2X.ps_raise hot hq tk (L2N.pmk_own PySem.F.excBase_ValueError T.ex T.g T.kp (raises_own T.sb T.ty) hg hdb)) fun D σ H ⟨H0, O0, ρ, S, G⟩ => ?_
  exact G C σ H T.g S (Kept.refl _ _)
end
def sTryR (cs : List Str) (body su els : Rho → Out) : Rho → Out := fun ρ => match body ρ with
  | .next ρ' => els ρ'
  | .exc c ρ' => if c ∈ cs then su ρ' else .stuck
  | o => o
section
variable {X : Cx} {W : WX} {nw : Bool} {x n : Str} {cv : Value} {i : Nat} {body suite orelse : List Stmt} {b₀ : Stmt} {np pos pos' : Pos} {g su h : Rho → Out} {sx : Str → Addr → Rho → Out} {cs : List Str}
theorem s_tryR (hs : X.stack = X.env :: X.outer) (hf : X.env.frame = some X.env.locals) (hc : Names X x cv) (hpa : ∀ hd : Option Value, PassesOwnAt (model X.prog X.w) (X.A.mark hd) X.A X.env X.xe) (tk : L2X.Takes X W)
    (hex : ∀ c ∈ cs, ∀ C, X.mg c = some (.ref C) → PySem.W.exmOne X.K (.ref C) cv = some true ∧ ExcC X.K C)
    (hb : ∀ (W' : WX) (pn : List (Addr × Obj)) (xe : Value → Shared → Prop), L2N.Takes (X.tr pn xe) W' → PassesOwn (model X.prog X.w) X.A X.env xe → BJ (X.tr pn xe) W' nw body g)
    (hsu : ∀ (p : Addr × Obj) (pn : List (Addr × Obj)), L2H.Hot1 (X.A.mark (some (.ref p.1))) p → L2X.Takes (L2H.suiteX X p.1 (p :: pn)) W → BJ (L2H.suiteX X p.1 (p :: pn)) W nw (b₀ :: suite) su) (ho : BJ X W nw orelse h) :
    SJ X W nw (.Try body [.ExceptHandler (some (.Name x np)) none (b₀ :: suite) pos'] orelse [] pos) (sTryR cs g su h) := by
  refine ps_imp (L2X.ps_tryR (tb := fun W' => tS X.K X.mg W' nw g) (ts := tS X.K X.mg W nw su) (u := tS X.K X.mg W nw h) ho hs hf hc hpa tk hb hsu) fun D σ H ⟨H0, O0, ρ, S, G⟩ => ⟨H0, O0, ρ, S, ?_⟩
  unfold sTryR at G
  revert G
  cases g ρ with
  | next ρ' => exact fun G σ' H' S' k' => ⟨H0, O0, ρ', S', GotS.later k' G⟩
  | brk ρ' => exact fun G => G
  | cont ρ' => exact fun G => G
  | ret p => exact fun G => G
  | stuck => exact fun G => G
  | exc c ρ' =>
    dsimp only
    split
    · rename_i hcs
      exact fun G C σ' H' hm S' k' => ⟨(hex c hcs C hm).1, H0, O0, ρ', S', GotS.later k' G⟩
    · exact fun G => G.elim
/-- try: body, except x as n: suite; the caught one may have a context -/
theorem s_tryX (hs : X.stack = X.env :: X.outer) (hf : X.env.frame = some X.env.locals) (hN : X.N.Nodup) (hi : X.N[i]? = some n) (hln : X.env.kindOf n = some .local) (hc : Names X x cv)
    (hex : ∀ c ∈ cs, ∀ C, X.mg c = some (.ref C) → PySem.W.exmOne X.K (.ref C) cv = some true ∧ ExcC X.K C)
    (hb : ∀ (W' : WX) (pn : List (Addr × Obj)) (xe : Value → Shared → Prop), L2X.Takes (X.tr pn xe) W' → PassesOwn (model X.prog X.w) X.A X.env xe → BJ (X.tr pn xe) W' nw body g)
    (hsu : ∀ (p q : Addr × Obj) (pn : List (Addr × Obj)) (c : Str) (C : Addr), c ∈ cs → Pn X.K X.mg p c C → L2X.Hot2 (X.A.mark (some (.ref p.1))) p q → BJ (suiteC X p.1 (p :: q :: pn)) (fun _ _ _ _ => False) nw (b₀ :: suite) (sx c p.1)) :
    SJ X W nw (.Try body [.ExceptHandler (some (.Name x np)) (some n) (b₀ :: suite) pos'] [] [] pos) (sTry i cs g sx) := by
  refine ps_imp (L2X.ps_tryA (tb := fun W' => tS X.K X.mg W' nw g) (ts := fun a cls d D σ H => ∃ c C, c ∈ cs ∧ cls = .ref C ∧ d = none ∧ X.mg c = some (.ref C) ∧ ExcC X.K C ∧ tS X.K X.mg (fun _ _ _ _ => False) nw (sx c a) D σ H) hs hf hN hi hln hc hb (fun p q cls d pn hz hv hot => ⟨fun pins s σ H D I ⟨c, C, hcs, e1, e2, hm, hC, h⟩ => ?_⟩)) fun D σ H ⟨H0, O0, ρ, S, G⟩ => ⟨H0, O0, ρ, S, ?_⟩
  · subst e1 e2
    obtain ⟨vs, hv'⟩ := hv
    exact (hsu p q pn c C hcs ⟨hm, hC, hz, vs, hv'⟩ hot).run pins s σ H D I h
  · unfold sTry at G
    revert G
    cases g ρ with
    | next ρ' => exact fun G => G
    | brk ρ' => exact fun G => G
    | cont ρ' => exact fun G => G
    | ret p => exact fun G => G
    | stuck => exact fun G => G
    | exc c ρ' =>
      dsimp only
      split
      · rename_i hcs
        intro G C σ' H' hm S' k'
        obtain ⟨h1, h2⟩ := hex c hcs C hm
        refine ⟨true, h1, fun _ a na => ⟨c, C, hcs, rfl, rfl, hm, h2, ?_⟩, fun z => nomatch z⟩
        have ns : tryX i (sx c) ρ' ≠ .stuck := fun z => by rw [z] at G; exact G
        have ea := tryX_at ns a
        rw [← ea] at G
        have S2 : StR X.K H0 O0 H' (σ'.set i (some (.ref a))) (ρ'.set i (.ex a)) := S'.set (s := .ex a) (fun _ z => nomatch z) (fun _ z => nomatch z) fun b z => by cases z; rfl
        have k2 : Kept (OO O0 σ ρ) H (OO O0 (σ'.set i (some (.ref a))) (ρ'.set i (.ex a))) H' := k'.trans (kept_set (s := .ex a) (fun _ z => nomatch z) (Same.refl _))
        refine ⟨H0, O0, _, S2, ?_⟩
        have back : ∀ {σ2 : St} {ρ2 : Rho} {H2 : Hp}, StR X.K H0 O0 H2 σ2 ρ2 → Kept (OO O0 (σ'.set i (some (.ref a))) (ρ'.set i (.ex a))) H' (OO O0 σ2 ρ2) H2 → StR X.K H0 O0 H2 (σ2.set i none) (ρ2.set i .un) ∧ Kept (OO O0 σ ρ) H (OO O0 (σ2.set i none) (ρ2.set i .un)) H2 := fun S3 k3 =>
          ⟨S3.set (s := .un) (fun _ z => nomatch z) (fun _ z => nomatch z), (k2.trans k3).trans (kept_set (s := .un) (fun _ z => nomatch z) (Same.refl _))⟩
        revert G
        cases sx c a (ρ'.set i (.ex a)) with
        | next ρ2 => exact fun G σ2 H2 S3 k3 => G _ _ (back S3 k3).1 (back S3 k3).2
        | brk ρ2 => exact fun G σ2 H2 S3 k3 => G _ _ (back S3 k3).1 (back S3 k3).2
        | cont ρ2 => exact fun G σ2 H2 S3 k3 => G _ _ (back S3 k3).1 (back S3 k3).2
        | ret p => exact fun G => G
        | exc c ρ2 => exact fun G => G.elim
        | stuck => exact fun G => G.elim
      · exact fun G => G.elim
end
def OkdX (P : Program) (w : World) (K : PySem.W.Frag) (mg : Str → Option Value) (base : Heap) (x : Str) (ps : List Str) (k n : Nat) (F : List PV → R PV) : Prop :=
  ∃ f fd, mg x = some (.ref f) ∧ PySem.W.keepIn K (.ref f) = true ∧ L2.Binds K fd ps [] ∧ FnOk P w K mg base (L2X.CX P w) k f fd ps (spF K mg n false F)
section
variable {P : Program} {w : World} {K : PySem.W.Frag} {mg : Str → Option Value} {base : Heap}
theorem tk_ofX {N : List Str} {qual : Str} {scope : Scope} {f : Addr} {cdv : Value} {A : Around} {outer : List PySem.Env} {s : Shared} {H : Hp} {E : XK} : L2X.Takes (cxOf (L2X.CX P w) P w K mg base N qual scope f cdv A outer s H E) (fun cls d _ H => E cls d H) := L2X.takes_of rfl rfl rfl rfl
theorem pa_ofX {N : List Str} {qual : Str} {scope : Scope} {f : Addr} {cdv : Value} {A : Around} {outer : List PySem.Env} {s : Shared} {H : Hp} {E : XK} (hd : Option Value) : PassesOwnAt (model P w) ((cxOf (L2X.CX P w) P w K mg base N qual scope f cdv A outer s H E).A.mark hd) (cxOf (L2X.CX P w) P w K mg base N qual scope f cdv A outer s H E).A (cxOf (L2X.CX P w) P w K mg base N qual scope f cdv A outer s H E).env (cxOf (L2X.CX P w) P w K mg base N qual scope f cdv A outer s H E).xe := L2H.passesAt_of rfl hd
theorem def_okE {x : Str} {st : Stmt} {N ps : List Str} {k n : Nat} {g : Rho → Out} (T : DefE K mg x st ps) (S : FnScope N ps (defScope st)) (hn : n = ps.length)
    (hbody : ∀ (f : Addr) (cdv : Value) (A : Around) (outer : List PySem.Env) (s : Shared) (H : Hp) (E : XK), Room k (A.deeper (envOfC x (defScope st) s.heap.objs.size f cdv)) →
      BJ (cxOf (L2X.CX P w) P w K mg base N x (defScope st) f cdv A outer s H E) (fun cls d _ H => E cls d H) false (defBody st) g) :
    OkdX P w K mg base x ps (k + 1) n (runF N.length g) := by
  obtain ⟨f, fd, T⟩ := T
  refine ⟨f, fd, T.g, T.F.kp, T.b, ?_⟩
  obtain ⟨oc, od, kV, doc, pm, an, cdv, ct, osl, rfl, lk, hcd⟩ := T.F.ex
  refine fn_of lk hcd S (fun vs H Q E h => ?_) fun A outer s H vs Q E hr h => ?_
  · obtain ⟨_, _, _, _, e, _⟩ := h
    rw [e, hn]
  · obtain ⟨qs, O, al, r, e, h⟩ := h
    refine ⟨_, hbody f cdv A outer s H E hr, H, O, _, start_st al r, ?_⟩
    have h' : (match runF N.length g qs with
      | .ok p => ∀ v H', Same H H' → RepR K O false H H' v p → Q v H'
      | .exc c => ∀ C H', Same H H' → mg c = some (.ref C) → E (.ref C) none H'
      | .stuck => False) := h
    unfold runF at h'
    revert h'
    cases hg : g (qs.map Slot.val ++ List.replicate (N.length - qs.length) Slot.un) with
    | ret p => exact fun h v H' s r => h v H' s r
    | next ρ' => exact fun h σ' H' S' _ => h _ _ S'.same .non
    | exc c ρ' => exact fun h C σ' H' e S' _ => h C H' S'.same e
    | brk ρ' => exact False.elim
    | cont ρ' => exact False.elim
    | stuck => exact False.elim
end
/-- a call that raises nothing -/
def eDN (F : List PV → R PV) (fA : Rho → R (List PV)) : Rho → R PV := fun ρ => match fA ρ with
  | .ok ps => match F ps with
    | .ok p => .ok p
    | _ => .stuck
  | .exc c => .exc c
  | .stuck => .stuck
section
variable {X : Cx} {W : WX} {e : Expr} {es : List Expr} {pos p : Pos} {fA : Rho → R (List PV)}
theorem e_callX {x : Str} {k j n : Nat} {F : List PV → R PV} {pn : List Str} (h : OkdX X.prog X.w X.K X.mg X.base x pn j n F) (hr : Room k X.A) (hjk : j ≤ k) (tk : L2X.Takes X W) (hg : Gl X x) (ha : AJ X W .s (e :: es) fA) (hal : ALen fA n) (hlen : n = es.length + 1 := by rfl) (hdb : (x == ("__debug__" : Str)) = false := by decide)
    (he : starEach (e :: es) X.env = (false, eval e X.env) :: starEach es X.env := by rfl) (hpl : (backTo pos (starEach es X.env)).any (·.1) = false := by rfl) : EJ X W .s (.Call (.Name x p) (e :: es) [] pos) (eD F fA) := by
  obtain ⟨f, fd, h1, h2, h3, h4⟩ := h
  refine pe_imp (pe_callSD (E := fun σ cls d H => W cls d σ H) (dvs := []) (ds := []) h4 (hr.mono hjk) hg h1 h2 h3 .nil (fun σ => L2X.passAt tk σ) ha hdb he hpl) fun σ H Q ⟨H0, O0, ρ, S, G⟩ => ⟨H0, O0, ρ, S, ?_⟩
  revert G
  unfold eD
  cases hA : fA ρ with
  | stuck => exact False.elim
  | exc c => exact id
  | ok ps =>
    intro G vs H1 s1 r1
    have rr := reps_of r1
    refine ⟨ps, OO O0 σ ρ, fun a z => (S.step s1).there z, by rw [List.append_nil]; exact rr, by rw [List.append_nil, rr.length, hal.ok ρ ps hA], ?_⟩
    revert G
    rw [R.bind_ok]
    cases F ps with
    | stuck => exact id
    | exc c => exact fun G C H' s' e => G C H' (s1.trans s') e
    | ok p => exact fun G v H' s' r' => G v H' (s1.trans s') r'
theorem e_callN {x : Str} {k j n : Nat} {F : List PV → R PV} {pn : List Str} (h : OkdX X.prog X.w X.K X.mg X.base x pn j n F) (hr : Room k X.A) (hjk : j ≤ k) (hg : Gl X x) (ha : AJ X W .s (e :: es) fA) (hal : ALen fA n) (hlen : n = es.length + 1 := by rfl) (hdb : (x == ("__debug__" : Str)) = false := by decide)
    (he : starEach (e :: es) X.env = (false, eval e X.env) :: starEach es X.env := by rfl) (hpl : (backTo pos (starEach es X.env)).any (·.1) = false := by rfl) : EJ X W .s (.Call (.Name x p) (e :: es) [] pos) (eDN F fA) := by
  obtain ⟨f, fd, h1, h2, h3, h4⟩ := h
  refine pe_imp (pe_callSD (E := fun _ _ _ _ => False) (dvs := []) (ds := []) h4 (hr.mono hjk) hg h1 h2 h3 .nil (fun σ => fun _ _ _ _ _ _ c => by
    obtain ⟨_, _, _, _, _, _, _, _, _, _, _, _, _, _, z⟩ := c
    exact z.elim) ha hdb he hpl) fun σ H Q ⟨H0, O0, ρ, S, G⟩ => ⟨H0, O0, ρ, S, ?_⟩
  revert G
  unfold eDN
  cases hA : fA ρ with
  | stuck => exact False.elim
  | exc c => exact id
  | ok ps =>
    dsimp only
    intro G vs H1 s1 r1
    have rr := reps_of r1
    refine ⟨ps, OO O0 σ ρ, fun a z => (S.step s1).there z, by rw [List.append_nil]; exact rr, by rw [List.append_nil, rr.length, hal.ok ρ ps hA], ?_⟩
    revert G
    cases F ps with
    | stuck => exact id
    | exc c => exact fun G => G.elim
    | ok p => exact fun G v H' s' r' => G v H' (s1.trans s') r'
end
structure FnX2 (P : Program) (w : World) (K : PySem.W.Frag) (mg : Str → Option Value) (base : Heap) (CX : CXT) (k : Nat) (f : Addr) (fd : FuncData) (ps : List Str) (p q : Addr × Obj) (sp : Sp) : Prop where
  len : ∀ vs H Q E, sp vs H Q E → vs.length = ps.length
  run : ∀ (A : Around) (outer : List PySem.Env) (s : Shared) (H : Hp) (args : Args) (us : List Value) (vs : List V) (Q : VK) (E : XK), L2H.RoomH k A → L2X.Hot2 A p q → L2H.PinOk outer H s p → L2H.PinOk outer H s q → Env0 P w K mg base A outer s H → BindsTo s fd args (ps.zip us) → Vals vs us → sp vs H Q E →
    codeAny (model P w) A (.call (.ref f) args) (CR CX outer P w H s Q E) s
/-- the context of its body -/
def cxH2 (CX : CXT) (P : Program) (w : World) (K : PySem.W.Frag) (mg : Str → Option Value) (base : Heap) (N : List Str) (qual : Str) (scope : Scope) (f : Addr) (cd : Value) (A : Around) (outer : List PySem.Env) (s : Shared) (H : Hp) (E : XK) (p q : Addr × Obj) : Cx :=
  { cxOf CX P w K mg base N qual scope f cd A outer s H E with calm := false, pn := [p, q] }
section
variable {P : Program} {w : World} {K : PySem.W.Frag} {mg : Str → Option Value} {base : Heap} {CX : CXT}
theorem fnX2_of {x qual : Str} {st : Stmt} {f : Addr} {fd : FuncData} {N ps : List Str} {k : Nat} {sp : Sp} {p q : Addr × Obj} (F : Fun K x qual st f fd) (S : FnScope N ps (defScope st)) (len : ∀ vs H Q E, sp vs H Q E → vs.length = ps.length)
    (hbody : ∀ (cdv : Value) (A : Around) (outer : List PySem.Env) (s : Shared) (H : Hp) (vs : List V) (Q : VK) (E : XK), L2X.Hot2 A p q → L2H.RoomH k (A.deeper (envOfC qual (defScope st) s.heap.objs.size f cdv)) → sp vs H Q E →
      ∃ t, PSs (cxH2 CX P w K mg base N qual (defScope st) f cdv A outer s H E p q) (defBody st) t ∧ t { nx := fun _ H' => Q .non H', rt := Q } (L2.start N vs) H) : FnX2 P w K mg base CX (k + 1) f fd ps p q sp := by
  obtain ⟨oc, od, kV, doc, pm, an, cdv, ct, osl, rfl, lk, hcd⟩ := F.ex
  refine ⟨len, fun A outer s H args us vs Q E hr hot hpin hqin e0 hb r hsp => ?_⟩
  have hl := len vs H Q E hsp
  have Kin : K.In s.heap := e0.mod.kin.keeps (fun b o e => (e0.bs b o e).1)
  have lim : s.heap.NoLimit := e0.mod.nolimit.keeps (fun b o e => (e0.bs b o e).1)
  have hkind : ∀ y ∈ ps.zip us, (defScope st).names.lookup y.1 = some .local ∨ ((defScope st).names.lookup y.1 = some .cell ∧ ((cellsFrom (s.heap.objs.size + 1) (defScope st).names []).lookup y.1).isSome = true) := fun ⟨n, v⟩ hy =>
    (S.par n (List.of_mem_zip hy).1).elim .inl fun q => .inr ⟨q, PySem.W.cellsFrom_some _ _ _ (.inl q)⟩
  refine codeAny_call_function hr.depth (Kin _ _ lk) rfl S.co S.gen rfl (PySem.W.codeRec_of Kin hcd) (hb _ _ _ _ ?_)
  refine wpAny_newFunctionEnv_cells S.kind hkind (fun env he s1 ic => ?_)
  subst he
  refine ⟨lim.keeps ic.toInCall.keep, codeAny_func ?_⟩
  obtain ⟨t, ht, hq⟩ := hbody cdv A outer s H vs Q E hot (hr.deeper _) hsp
  have I1 := L2H.inv_startH (CX := CX) (E := E) (base := base) (mg := mg) S hpin e0 hl r ic
  have I2 := L2H.inv_startH (CX := CX) (E := E) (base := base) (mg := mg) S hqin e0 hl r ic
  have I : Inv (cxH2 CX P w K mg base N qual (defScope st) f cdv A outer s H E p q) [] (L2.start N vs) H s1 :=
    { ok := ⟨I1.ok.mod, I1.ok.kind, I1.ok.glob, I1.ok.blt, I1.ok.above, I1.ok.inj, I1.ok.has, I1.ok.cab, I1.ok.hd, I1.ok.frames, I1.ok.stk, I1.ok.exf, I1.ok.bs, I1.ok.bsz, I1.ok.noex, I1.ok.exfs, I1.ok.funs, I1.ok.frf⟩, os := I1.os, bare := I1.bare, base := I1.base, loc := I1.loc, cell := I1.cell, free := I1.free, freeC := I1.freeC,
      pin := fun z hz => by
        rcases List.mem_cons.mp (show z ∈ p :: [q] from by simpa using (show z ∈ [p, q] ++ [] from hz)) with e | e
        · exact I1.pin z (by rw [e]; exact List.mem_cons_self)
        · exact I2.pin z (by rw [List.mem_singleton.mp e]; exact List.mem_cons_self)
      hok := I1.hok, len := I1.len }
  refine wpAny_mono (ht.run [] s1 _ H _ I hq) ?_ (fun e s' h => h)
  intro fl s' h
  have fin : ∀ {σ' : St} {H' : Hp} {v : V} {u : Value}, Inv (cxH2 CX P w K mg base N qual (defScope st) f cdv A outer s H E p q) [] σ' H' s' → RelV v u → Q v H' → CE outer P w H s Q u s' :=
    fun {σ' H' v u} J rv q => ⟨v, H', J.os, J.bare, J.base, J.hok, rv, q⟩
  cases fl with
  | ret u =>
    obtain ⟨v, σ', H', J, rv, q⟩ := h
    exact fin J rv q
  | next =>
    obtain ⟨σ', H', J, q⟩ := h
    exact fin (v := V.non) (u := Value.none) J rfl q
  | brk => exact False.elim h.choose_spec.choose_spec.2
  | cont => exact False.elim h.choose_spec.choose_spec.2
theorem run_X2 {X : Cx} {k : Nat} {f : Addr} {fd : FuncData} {ps : List Str} {sp : Sp} {E : XK} {p q : Addr × Obj} {pins : List (Addr × Obj)} {σ : St} {H : Hp} {s : Shared} {Q : VK} {us : List Value} {vs : List V} (F : FnX2 X.prog X.w X.K X.mg X.base CX k f fd ps p q sp) (hr : L2H.RoomH k X.A) (hot : L2X.Hot2 X.A p q) (hp : p ∈ X.pn) (hq : q ∈ X.pn) (hb : L2.Binds X.K fd ps [])
    (hx : ∀ (pins : List (Addr × Obj)) (H : Hp) (s : Shared) (e : Value) (s' : Shared), Inv X pins σ H s → CX X.stack H s E e s' → X.xe e s') (I : Inv X pins σ H s) (r : Vals vs us) (h : sp vs H Q E) : wpAny (model X.prog X.w) X.A (call (.ref f) us) (EP X pins σ Q) X.xe s := by
  have hl : us.length = ps.length := by rw [← r.length]; exact F.len vs H Q E h
  have b := hb s us I.kIn (by rw [List.append_nil]; exact hl)
  rw [List.append_nil] at b
  have pin : ∀ z ∈ X.pn, L2H.PinOk X.stack H s z := fun z hz => by
    have pn := I.pin z (List.mem_append_left _ hz)
    exact ⟨pn.1, pn.2.1, fun hm => (List.mem_cons.mp (I.stkSub z.1 hm)).elim pn.2.2.1 pn.2.2.2.1, pn.2.2.2.2⟩
  refine wpAny_call (codeAny_mono (F.run X.A X.stack s H ⟨us, []⟩ us vs Q E hr hot (pin p hp) (pin q hq) I.env0 b r h) ?_)
  intro res s' hq
  cases res with
  | error e => exact hx pins H s e s' I hq
  | ok fl =>
    cases fl with
    | ret u => exact I.after hq
    | next => exact hq.elim
    | brk => exact hq.elim
    | cont => exact hq.elim
def OkX2 (P : Program) (w : World) (K : PySem.W.Frag) (mg : Str → Option Value) (base : Heap) (x : Str) (e0 : Str) (k : Nat) (c : Str) (F : Addr → R PV) : Prop :=
  ∃ f fd, mg x = some (.ref f) ∧ PySem.W.keepIn K (.ref f) = true ∧ L2.Binds K fd [e0] [] ∧ ∀ (p q : Addr × Obj) C, Pn K mg p c C → FnX2 P w K mg base (L2N.CX P w) k f fd [e0] p q (spX K mg false p.1 (F p.1))
theorem fnX2_mk {x qual : Str} {st : Stmt} {f : Addr} {fd : FuncData} {N : List Str} {e0 : Str} {k : Nat} {g : Rho → Out} {p q : Addr × Obj} (F : Fun K x qual st f fd) (S : FnScope N [e0] (defScope st)) (hN : 0 < N.length)
    (hbody : ∀ (cdv : Value) (A : Around) (outer : List PySem.Env) (s : Shared) (H : Hp) (E : XK), L2X.Hot2 (A.deeper (envOfC qual (defScope st) s.heap.objs.size f cdv)) p q → L2H.RoomH k (A.deeper (envOfC qual (defScope st) s.heap.objs.size f cdv)) →
      BJ (cxH2 (L2N.CX P w) P w K mg base N qual (defScope st) f cdv A outer s H E p q) (fun _ _ _ _ => False) false (defBody st) g) :
    FnX2 P w K mg base (L2N.CX P w) (k + 1) f fd [e0] p q (spX K mg false p.1 (runX N.length g p.1)) := by
  refine fnX2_of F S (fun vs H Q E h => ?_) (fun cdv A outer s H vs Q E hot hr h => ?_)
  · obtain ⟨_, _, e, _⟩ := h
    rw [e]; rfl
  · obtain ⟨O, al, e, h⟩ := h
    subst e
    refine ⟨_, hbody cdv A outer s H E ⟨hot.1, hot.2⟩ hr, H, O, _, startX hN al, ?_⟩
    unfold runX at h
    revert h
    cases hg : g (.ex p.1 :: List.replicate (N.length - 1) Slot.un) with
    | ret q => exact fun h v H' s r => h v H' s r
    | next ρ' => exact fun h σ' H' S' _ => h _ _ S'.same .non
    | exc c ρ' => exact fun h => h.elim
    | brk ρ' => exact fun h => h.elim
    | cont ρ' => exact fun h => h.elim
    | stuck => exact fun h => h.elim
theorem def_okX2 {x : Str} {st : Stmt} {N : List Str} {e0 : Str} {k : Nat} {c : Str} {g : Addr → Rho → Out} (T : DefE K mg x st [e0]) (S : FnScope N [e0] (defScope st)) (hN : 0 < N.length)
    (hbody : ∀ (f : Addr) (cdv : Value) (A : Around) (outer : List PySem.Env) (s : Shared) (H : Hp) (E : XK) (p q : Addr × Obj) (C : Addr), Pn K mg p c C → L2X.Hot2 (A.deeper (envOfC x (defScope st) s.heap.objs.size f cdv)) p q → L2H.RoomH k (A.deeper (envOfC x (defScope st) s.heap.objs.size f cdv)) →
      BJ (cxH2 (L2N.CX P w) P w K mg base N x (defScope st) f cdv A outer s H E p q) (fun _ _ _ _ => False) false (defBody st) (g p.1)) :
    OkX2 P w K mg base x e0 (k + 1) c (fun a => runX N.length (g a) a) := by
  obtain ⟨f, fd, T⟩ := T
  exact ⟨f, fd, T.g, T.F.kp, T.b, fun p q C hc => fnX2_mk T.F S hN fun cdv A outer s H E hot hr => hbody f cdv A outer s H E p q C hc hot hr⟩
end
section
variable {X : Cx} {W : WX} {e : Expr} {pos z : Pos} {i : Nat} {a : Addr} {c : Str}
theorem e_hot2 {x e0 : Str} {k j : Nat} {F : Addr → R PV} {p q : Addr × Obj} {C : Addr} (hp : p ∈ X.pn) (hq : q ∈ X.pn) (P : Pn X.K X.mg p c C) (hot : L2X.Hot2 X.A p q) (hxe : X.xe = fun _ _ => False) (h : OkX2 X.prog X.w X.K X.mg X.base x e0 j c F) (hr : L2H.RoomH k X.A) (hjk : j ≤ k) (hg : Gl X x) (ho : PE X e (tVar i)) (hdb : (x == ("__debug__" : Str)) = false := by decide)
    (he : starEach (e :: []) X.env = (false, eval e X.env) :: starEach [] X.env := by rfl) (hpl : (backTo pos (starEach [] X.env)).any (·.1) = false := by rfl) : EJ X W .s (.Call (.Name x z) [e] [] pos) (hotC i p.1 F) := by
  obtain ⟨f, fd, h1, h2, h3, h4⟩ := h
  refine ⟨fun pins s σ H Q I ⟨H0, O0, ρ, S, G⟩ => ?_⟩
  unfold hotC at G
  split at G
  · rename_i a' ha
    split at G
    · rename_i ea
      subst ea
      split at G
      · rename_i v0 hv
        refine wpAny_Call_Name_kw (ld_glob I hg h1 ?_ hdb)
        refine PySem.W.callWith_K (h₀ := X.base) I.ok.mod.kin h2 (thn ((pa_cons ho pa_nil he).run pos pins s σ H (fun vs H1 => vs = [V.ref p.1] ∧ H1 = H) I ⟨_, exs_at S ha, rfl, rfl⟩) fun us s1 ⟨vs, H1, I1, r, e1, e2⟩ => ⟨I1.kIn, ?_⟩) he hpl
        subst e1 e2
        have Fx := h4 p q C P
        rw [hv] at Fx
        refine run_X2 (E := fun _ _ _ => False) Fx (hr.mono hjk) hot hp hq h3 (fun _ _ _ _ _ _ cx => ?_) I1 r ⟨OO O0 σ ρ, fun b z => S.there z, rfl, fun v H' s' r' => G v H' s' r'⟩
        obtain ⟨_, _, _, _, _, _, _, _, _, _, _, _, z⟩ := cx
        exact z.elim
      · exact G.elim
    · exact G.elim
  · exact G.elim
end
section
variable {prog : Program} {w : World} {A : Around} {E : Value → Shared → Prop} {s : Shared}
theorem list_endK {it l x1 : Addr} {i : Nat} {items : Array Value} {Q : Option Value → Shared → Prop} (hot : L2X.HotK A x1 s.heap) (hit : s.heap.IsListIter it l i) (hl : s.heap.IsList l items) (hx : items[i]? = none)
    (hQ : ∀ h', (∀ b o, b ≠ it → s.heap.get? b = some o → h'.get? b = some o) → Q none { s with heap := h' }) : wpAny (model prog w) A (pyNext (.ref it)) Q E s := by
  have ty := hit.typeIs
  obtain ⟨o, ho, hc, hd⟩ := id hit
  obtain ⟨ol, hol, h0, nl, hdl⟩ := hl
  -- the hot chain without the iterator
  have rec_ : ∀ {b : Addr} {ob : Obj} {us : Array Value}, s.heap.get? b = some ob → ob.data = .fields us → us[2]? ≠ none → b ≠ it := fun {b ob us} e d c z => by
    rw [z, ho] at e
    cases e
    rw [hd] at d
    cases d
    exact c rfl
  have hot2 : ∀ {h2 : Heap}, (∀ b o, b ≠ it → s.heap.get? b = some o → h2.get? b = some o) → L2X.HotK A x1 h2 := fun {h2} kp => by
    obtain ⟨hh, o1, us1, g1, d1, c1⟩ := hot
    refine ⟨hh, o1, us1, kp _ _ (rec_ g1 d1 (by rcases c1 with c | ⟨_, _, _, _, c, _⟩ <;> rw [c] <;> exact fun z => nomatch z)) g1, d1, c1.imp id fun ⟨x0, o0, ws, n, c, g0, d0, c0⟩ => ⟨x0, o0, ws, n, c, kp _ _ (rec_ g0 d0 (by rw [c0]; exact fun z => nomatch z)) g0, d0, c0⟩⟩
  unfold pyNext
  refine wpAny_bind (wpAny_attempt (wpAny_callSpecial?_slot (name := Str.ofString "__next__") ty slot_listiter_next (wpAny_call_entry slot_listiter_next ty entry_listiter_next ?_ (args_listiter_next _))))
  (show wpAny _ _ (field (.ref it) 0 >>= _) _ _ s); (refine wpAny_bind (wpAny_field ho hd (x := .ref l) rfl ?_))
  (show wpAny _ _ (if (Value.ref l == Value.none) = true then _ else _) _ _ s); (rw [if_neg (show ¬ ((Value.ref l == Value.none) = true) from Bool.false_ne_true)])
  (show wpAny _ _ (field (.ref it) 1 >>= _) _ _ s); (refine wpAny_bind (wpAny_field ho hd (x := .int i 0) rfl ?_))
  (show wpAny _ _ (seqItems? (.ref l) >>= _) _ _ s); (refine wpAny_bind (wpAny_seqItems hol hdl ?_)); (simp only [Int.toNat_natCast, hx])
  (refine wpAny_bind (wpAny_rule (wpAny_bind (wpAny_setField ho hd (by simp) ?_)))); (show wpAny _ _ (newExc (.type "StopIteration") [] >>= _) _ _ _)
  (refine wpAny_bind ?_); (simp only [newExc, newTuple]); (refine wpAny_bind (wpAny_newObj_type ?_ (by size_fits)))
  (refine wpAny_bind (m := firstArgMember _ _) (wpAny_of_eq (a := Value.none) (by first | rfl | (simp only [firstArgMember]; rfl)) ?_)); (refine wpAny_newObj_type ?_ (by size_fits))
  have old := hot2 (h2 := s.heap.update it (Obj.mapFields (·.setIfInBounds 0 .none))) fun b o hb e => (Heap.get?_update_other _ _ (Ne.symm hb)).trans e
  refine L2X.raiseK (x1 := x1) old (fun b o e => Heap.get?_push_of_some _ (Heap.get?_push_of_some _ e)) ?_ (Heap.get?_push_size _ rfl) rfl (by first | (simp; done) | (simp; omega) | (simp only [Array.size_append]; simp; omega)) ?_
  · cases q : (s.heap.update it (Obj.mapFields (·.setIfInBounds 0 .none))).get? ((s.heap.update it (Obj.mapFields (·.setIfInBounds 0 .none))).push { cls := .type "tuple", data := .seq #[] }).objs.size with
    | none => rfl
    | some o2 => exact absurd (Heap.lt_size q) (by rw [Heap.size_push]; exact Nat.not_lt.mpr (Nat.le_succ _))
  · refine wpAny_bind (wpAny_isInstance (T := "StopIteration") (b := true) ⟨_, Heap.get?_update_self _ (Heap.get?_push_size _ rfl) rfl, rfl⟩ isSubtype_stop (wpAny_pure (hQ _ fun b o hb e => ?_)))
    have e1 := Heap.get?_push_of_some { cls := .type "tuple", data := .seq #[] } ((Heap.get?_update_other s.heap (Obj.mapFields (·.setIfInBounds 0 .none)) (Ne.symm hb)).trans e)
    refine (Heap.get?_update_other _ _ (Nat.ne_of_gt (Heap.lt_size e1))).trans ?_
    exact Heap.get?_push_of_some _ e1
/-- the chain's objects: the handled one, and its context (or the handled one again) -/
def HotL (A : Around) (x1 x0 : Addr) (h : Heap) : Prop := A.handled = some (.ref x1) ∧ ∃ (o : Obj) (us : Array Value), h.get? x1 = some o ∧ o.data = .fields us ∧
  (us[2]? = some .none ∨ (x0 ≠ x1 ∧ us[2]? = some (.ref x0) ∧ ∃ (o0 : Obj) (ws : Array Value), h.get? x0 = some o0 ∧ o0.data = .fields ws ∧ ws[2]? = some .none))
theorem HotL.k {x1 x0 : Addr} {h : Heap} (z : HotL A x1 x0 h) : L2X.HotK A x1 h := by
  obtain ⟨hh, o, us, g, d, c⟩ := z
  exact ⟨hh, o, us, g, d, c.imp id fun ⟨n, c, o0, ws, g0, d0, c0⟩ => ⟨x0, o0, ws, n, c, g0, d0, c0⟩⟩
theorem HotL.at_ {x1 x0 : Addr} {h h2 : Heap} (z : HotL A x1 x0 h) (k1 : ∀ o, h.get? x1 = some o → h2.get? x1 = some o) (k0 : ∀ o, h.get? x0 = some o → h2.get? x0 = some o) : HotL A x1 x0 h2 := by
  obtain ⟨hh, o, us, g, d, c⟩ := z
  exact ⟨hh, o, us, k1 o g, d, c.imp id fun ⟨n, c, o0, ws, g0, r⟩ => ⟨n, c, o0, ws, k0 _ g0, r⟩⟩
theorem walksK (I ax x1 x0 : Addr) (hne : ax ≠ I) (hx : x1 ≠ I) (h0 : x0 ≠ I) (items : Array Value) : Walks prog w A I [I, ax, x1, x0] [I] items.size (fun i v => items[i]? = some v) (fun i h => h.IsListIter I ax i ∧ h.IsList ax items ∧ HotL A x1 x0 h) where
  sub := fun b hb => by simp at hb; simp [hb]
  frame := fun _ _ _ st hk => ⟨st.1.at fun o e => hk I (by simp) o e, st.2.1.at fun o e => hk ax (by simp) o e, st.2.2.at_ (fun o e => hk x1 (by simp) o e) fun o e => hk x0 (by simp) o e⟩
  item := fun i s Q E hi st hQ => by
    refine wpAny_pyNext_list_item st.1 st.2.1 (x := items[i]) (by simp [hi]) (fun h' hit' hs' => ?_)
    exact hQ _ h' s.toks (by simp [hi]) ⟨hit', st.2.1.extBut hs'.extBut hne, st.2.2.at_ (fun o e => hs'.extBut x1 o hx e) fun o e => hs'.extBut x0 o h0 e⟩ (fun b o hb e => hs'.extBut b o (fun z => hb (by simp [z])) e)
  done := fun s Q E st hQ => list_endK st.2.2.k st.1 st.2.1 (by simp) (fun h' he' => hQ h' s.toks (fun b o hb e => he' b o (fun z => hb (by simp [z])) e))
  self := fun _ _ _ _ st hQ => wpAny_pyIter_listiter st.1 hQ
end
section
variable {X : Cx}
theorem cr_any2 {p q : Addr × Obj} (hp : p ∈ X.pn) (hq : q ∈ X.pn) (hot : L2X.Hot2 X.A p q) : CallR X (.builtin "any") (rAny X.K) := by
  intro pins s σ H vs us Q I r ⟨a, bs, e0, hs, qq⟩
  subst e0
  obtain ⟨its, rv, hl, _⟩ := I.list hs
  rw [Vals.ref1 r]
  have hb := rv.bls
  have g1 := (I.pin p (List.mem_append_left _ hp)).1
  have g0 := (I.pin q (List.mem_append_left _ hq)).1
  obtain ⟨hh, v1, d1, c1⟩ := hot
  have l1 := Heap.lt_size g1
  have l0 := Heap.lt_size g0
  refine call_any_walk (iter_any hl.isList (fun s₂ e2 st hne => ?_))
  subst e2
  refine ⟨_, _, _, _, _, _, _, rfl, walksK (A := X.A.in1) _ a p.1 q.1 hne (Nat.ne_of_lt l1) (Nat.ne_of_lt l0) its.toArray, ⟨st.1, st.2, hh, p.2, v1, Heap.get?_push_of_some _ g1, d1, c1.imp id fun ⟨n, c, ws, w1, w2⟩ => ⟨n, c, q.2, ws, Heap.get?_push_of_some _ g0, w1, w2⟩⟩, truth_bools hb, (fun h' tk hk => ?_)⟩
  refine ⟨.bl _, H, I.kept (fun b o eo => hk b o (fun hmem => ?_) (Heap.get?_push_of_some _ eo)), ?_, qq⟩
  · rcases List.mem_cons.mp hmem with z | z
    · exact absurd (z ▸ Heap.lt_size eo) (Nat.lt_irrefl _)
    · cases z
  · (show Value.bool _ = Value.bool _); (rw [← L2.any_range, hb, List.size_toArray, List.length_map])
variable {W : WX} {e : Expr} {pos p' : Pos} {fA : Rho → R (List PV)}
theorem e_any2 {p q : Addr × Obj} (hp : p ∈ X.pn) (hq : q ∈ X.pn) (hot : L2X.Hot2 X.A p q) (mg : X.mg "any" = none) (hg : Gl X "any") (ha : AJ X W .t [e] fA) (he : starEach [e] X.env = (false, eval e X.env) :: starEach [] X.env := by rfl) : EJ X W .s (.Call (.Name "any" p') [e] [] pos) (eD anyP fA) := e_callB (cr_any2 hp hq hot) anyP_exc (s_any _) hg mg (by decide +kernel) ha (he := he)
end
end PL
set_option Elab.async false
set_option linter.all false
set_option maxRecDepth 100000
set_option autoImplicit false
namespace K18
open PySem PySem.Spec L2 PL PM
open PyProof.Rows hiding St
def csL : List Str := ["NoFigures", "NoPlace", "NoPrime", "NoText"]
noncomputable def D_readX : Rho → Out := (bSeq (sIf (tNt (tB1 (e1 (isiP "str") (eVo 0)))) (bSeq (sRaise "NoText") bNil) bNil) (bSeq (sSet 1 (eM splitP (eVo 0) (eC (.str " ")))) (bSeq (sIf (tOr' (tB1 (e2 ltP (eD lenP (aCons (eVo 1) aNil)) (eC (.int 3)))) (tB1 (e2 neP (e2 ixP (eVo 1) (eC (.int 2))) (eC (.str ":"))))) (bSeq (sRaise "NoText") bNil) bNil) (bSeq (sSet 2 (eD F_number_of (aCons (e2 ixP (eVo 1) (eC (.int 0))) aNil))) (bSeq (sSet 3 (eD F_number_of (aCons (e2 ixP (eVo 1) (eC (.int 1))) aNil))) (bSeq (sSet 4 (eLcE [6] (iRv (eSl slP (eVo 1) (oSome (eC (.int 3))) oNone)) (gN 6) (eD F_number_of (aCons (eV 6) aNil)))) (bSeq (sTryR csL (bSeq (sSet 5 (eD F_left_number (aCons (eV 2) (aCons (eV 3) (aCons (eV 4) aNil))))) bNil) (bSeq (sRaise "NoText") bNil) (bSeq (sIf (tB1 (e2 neP (e2 ixP (eVo 5) (eC (.int 1))) (eVo 3))) (bSeq (sRaise "NoText") bNil) bNil) (bSeq (sRet (eV 5)) bNil))) bNil)))))))
noncomputable def F_readX : List PV → R PV := runF 7 D_readX
noncomputable def D__law_cell_at : Rho → Out := (bSeq (sIf (tB1 (e2 ltP (eVo 1) (eD lenP (aCons (eVo 0) aNil)))) (bSeq (sRet (e2 ixP (eVo 0) (eVo 1))) bNil) bNil) (bSeq (sRet (eC (.int 0))) bNil))
noncomputable def F__law_cell_at : List PV → R PV := runF 2 D__law_cell_at
noncomputable def D__law_primes : Rho → Out := (bSeq (sRet (eD lstP (aCons (eC (.int 2)) (aCons (eC (.int 3)) (aCons (eC (.int 5)) (aCons (eC (.int 7)) (aCons (eC (.int 11)) (aCons (eC (.int 13)) (aCons (eC (.int 17)) (aCons (eC (.int 19)) (aCons (eC (.int 23)) (aCons (eC (.int 29)) (aCons (eC (.int 31)) (aCons (eC (.int 37)) (aCons (eC (.int 41)) (aCons (eC (.int 43)) (aCons (eC (.int 47)) (aCons (eC (.int 53)) (aCons (eC (.int 59)) (aCons (eC (.int 61)) (aCons (eC (.int 67)) (aCons (eC (.int 71)) (aCons (eC (.int 73)) (aCons (eC (.int 79)) (aCons (eC (.int 83)) (aCons (eC (.int 89)) (aCons (eC (.int 97)) aNil))))))))))))))))))))))))))) bNil)
noncomputable def F__law_primes : List PV → R PV := runF 0 D__law_primes
noncomputable def D__law_place : Rho → Out := (bSeq (sIf (tB1 (e2 eqP (e2 modP (eVo 0) (eC (.int 3))) (eC (.int 2)))) (bSeq (sRet (e2 subP (e2 modP (e2 fdivP (eVo 0) (eC (.int 3))) (e2 addP (e2 mulP (eC (.int 2)) (e2 powP (eC (.int 10)) (eC (.int 29)))) (eC (.int 1)))) (e2 powP (eC (.int 10)) (eC (.int 29))))) bNil) bNil) (bSeq (sRet (e2 subP (e2 modP (e2 fdivP (eVo 0) (eC (.int 3))) (eC (.int 81))) (eC (.int 40)))) bNil))
noncomputable def F__law_place : List PV → R PV := runF 1 D__law_place
noncomputable def D__law_text : Rho → Out := (bSeq (sSet 3 (e2 addP (e2 addP (e2 addP (eD strP (aCons (eVo 0) aNil)) (eC (.str " "))) (eD strP (aCons (eVo 1) aNil))) (eC (.str " :")))) (bSeq (sFor (iRv (eV 2)) (gN 4) (bSeq (sSet 3 (e2 addP (e2 addP (eVo 3) (eC (.str " "))) (eD strP (aCons (eVo 4) aNil)))) bNil)) (bSeq (sRet (eV 3)) bNil)))
noncomputable def F__law_text : List PV → R PV := runF 5 D__law_text
noncomputable def D__law_spoiled : Rho → Out := (bSeq (sSet 3 (eD lstP (aCons (eC (.str "0")) (aCons (eC (.str "1")) (aCons (eC (.str "2")) (aCons (eC (.str "3")) (aCons (eC (.str "7")) (aCons (eC (.str "9")) (aCons (eC (.str " ")) (aCons (eC (.str " ")) (aCons (eC (.str ":")) (aCons (eC (.str "-")) (aCons (eC (.str "+")) (aCons (eC (.str "_")) (aCons (eC (.str ".")) (aCons (eC (.str "/")) (aCons (eC (.str ",")) (aCons (eC (.str "a")) (aCons (eC (.str "e")) (aCons (eC (.str "~")) (aCons (eC (.str "(")) (aCons (eC (.str "'")) aNil)))))))))))))))))))))) (bSeq (sSet 3 (e2 addP (eVo 3) (eD lstP (aCons (eC (.str "\t")) (aCons (eC (.str "\n")) (aCons (eC (.str "  ")) aNil)))))) (bSeq (sSet 4 (e2 ixP (eVo 3) (e2 modP (eVo 2) (eC (.int 23))))) (bSeq (sSet 5 (e2 modP (e2 fdivP (eVo 1) (eC (.int 4))) (e2 addP (eD lenP (aCons (eVo 0) aNil)) (eC (.int 1))))) (bSeq (sIf (tB1 (e2 eqP (e2 modP (eVo 1) (eC (.int 4))) (eC (.int 0)))) (bSeq (sRet (e2 addP (e2 addP (eSl slP (eVo 0) oNone (oSome (eV 5))) (eVo 4)) (eSl slP (eVo 0) (oSome (eV 5)) oNone))) bNil) bNil) (bSeq (sIf (tB1 (e2 eqP (e2 modP (eVo 1) (eC (.int 4))) (eC (.int 1)))) (bSeq (sRet (e2 addP (eSl slP (eVo 0) oNone (oSome (eV 5))) (eSl slP (eVo 0) (oSome (e2 addP (eVo 5) (eC (.int 1)))) oNone))) bNil) bNil) (bSeq (sIf (tB1 (e2 eqP (e2 modP (eVo 1) (eC (.int 4))) (eC (.int 2)))) (bSeq (sRet (e2 addP (e2 addP (eSl slP (eVo 0) oNone (oSome (eV 5))) (eVo 4)) (eSl slP (eVo 0) (oSome (e2 addP (eVo 5) (eC (.int 1)))) oNone))) bNil) bNil) (bSeq (sSetO 6 (eM splitP (eVo 0) (eC (.str " ")))) (bSeq (sSet 7 (eD lstP (aCons (eC (.str "")) (aCons (eC (.str "-0")) (aCons (eC (.str "00")) (aCons (eC (.str "01")) (aCons (eC (.str "+1")) (aCons (eC (.str "--1")) (aCons (eC (.str "1_0")) (aCons (eC (.str "97")) (aCons (eC (.str "98")) (aCons (eC (.str "4")) (aCons (eC (.str "1")) (aCons (eC (.str ":")) (aCons (e2 addP (eC (.str "1")) (e2 repS (eC (.str "0")) (eC (.int 30)))) (aCons (e2 addP (eC (.str "1")) (e2 repS (eC (.str "0")) (eC (.int 31)))) aNil)))))))))))))))) (bSeq (sSetI 6 (e2 ixP (eVo 7) (e2 modP (eVo 2) (eC (.int 14)))) (e2 modP (eVo 5) (eD lenP (aCons (eVo 6) aNil)))) (bSeq (sRet (eM joinP (eC (.str " ")) (eVo 6))) bNil)))))))))))
noncomputable def F__law_spoiled : List PV → R PV := runF 8 D__law_spoiled
noncomputable def D__law_is_number : Rho → Out := (bSeq (sSet 1 (eV 0)) (bSeq (sIf (tB1 (e2 eqP (eSl slP (eVo 0) oNone (oSome (eC (.int 1)))) (eC (.str "-")))) (bSeq (sSet 1 (eSl slP (eVo 0) (oSome (eC (.int 1))) oNone)) bNil) bNil) (bSeq (sIf (tOr' (tB1 (e2 eqP (eVo 1) (eC (.str "")))) (tOr' (tB1 (e2 gtP (eD lenP (aCons (eVo 1) aNil)) (eC (.int 31)))) (tNt (tB1 (eD allP (aCons (eLc [2] (iStrP (eVo 1)) (gN 2) cYes (e2 inS (eVo 2) (eC (.str "0123456789")))) aNil)))))) (bSeq (sRet (eC (.bl false))) bNil) bNil) (bSeq (sRet (eOr (e2 neP (e2 ixP (eVo 1) (eC (.int 0))) (eC (.str "0"))) (e2 eqP (eVo 0) (eC (.str "0"))))) bNil))))
noncomputable def F__law_is_number : List PV → R PV := runF 3 D__law_is_number
noncomputable def D__law_due : Rho → Out := (bSeq (sSet 1 (eM splitP (eVo 0) (eC (.str " ")))) (bSeq (sIf (tOr' (tB1 (e2 ltP (eD lenP (aCons (eVo 1) aNil)) (eC (.int 3)))) (tOr' (tB1 (e2 neP (e2 ixP (eVo 1) (eC (.int 2))) (eC (.str ":")))) (tNt (tB1 (eD allP (aCons (eLc [4] (iS (e2 addP (eSl slP (eVo 1) oNone (oSome (eC (.int 2)))) (eSl slP (eVo 1) (oSome (eC (.int 3))) oNone))) (gN 4) cYes (eD F__law_is_number (aCons (eV 4) aNil))) aNil)))))) (bSeq (sRet (eC .non)) bNil) bNil) (bSeq (sSet 2 (eD intS (aCons (e2 ixP (eVo 1) (eC (.int 0))) aNil))) (bSeq (sSet 3 (eLc [4] (iRv (eSl slP (eVo 1) (oSome (eC (.int 3))) oNone)) (gN 4) cYes (eD intS (aCons (eVo 4) aNil)))) (bSeq (sIf (tOr' (tB1 (e2 notInP (eVo 2) (fun _ => F__law_primes []))) (tNt (tB1 (eD allP (aCons (eLc [5] (iS (eV 3)) (gN 5) cYes (eChain leP ltP (eC (.int 0)) (eVo 5) (eVo 2))) aNil))))) (bSeq (sRet (eC .non)) bNil) bNil) (bSeq (sIf (tAn (tB1 (e2 neP (eVo 3) (eD lstP aNil))) (tB1 (e2 eqP (e2 ixP (eVo 3) (eC (.int 0))) (eC (.int 0))))) (bSeq (sRet (eC .non)) bNil) bNil) (bSeq (sRet (eD tupP (aCons (eV 2) (aCons (eD intS (aCons (e2 ixP (eVo 1) (eC (.int 1))) aNil)) (aCons (eD tupleP (aCons (eVo 3) aNil)) aNil))))) bNil)))))))
noncomputable def F__law_due : List PV → R PV := runF 6 D__law_due
noncomputable def D__law_others (c : Str) (a : Addr) : Rho → Out := (bSeq (sSet 1 (eD lstP (aCons (isX 0 a (subX c "NoPrime")) (aCons (isX 0 a (subX c "NoPlace")) (aCons (isX 0 a (subX c "NoFigures")) (aCons (isX 0 a (subX c "NoFraction")) aNil)))))) (bSeq (sSet 1 (e2 addP (eVo 1) (eD lstP (aCons (isX 0 a (subX c "Unlike")) (aCons (isX 0 a (subX c "NoQuotient")) (aCons (isX 0 a (subX c "NoPower")) (aCons (isX 0 a (subX c "TooFew")) aNil))))))) (bSeq (sSet 1 (e2 addP (eVo 1) (eD lstP (aCons (isX 0 a (subX c "NoSize")) (aCons (isX 0 a (subX c "NoPolynomial")) (aCons (isX 0 a (subX c "NoDepth")) (aCons (isX 0 a (subX c "NoRoot")) aNil))))))) (bSeq (sRet (eOr (eD anyP (aCons (eVo 1) aNil)) (isX 0 a (subX c "NotNear")))) bNil))))
noncomputable def F__law_others (c : Str) (a : Addr) : R PV := runX 2 (D__law_others c a) a
noncomputable def D__law_refused : Rho → Out := (bSeq (sSet 1 (eC (.bl false))) (bSeq (sTry 2 csL (bSeq (sDrop (eD F_readX (aCons (eV 0) aNil))) bNil) (fun c a => (bSeq (sSet 1 (eAn (isX 2 a (subX c "NoText")) (eAn (isX 2 a (subX c "ValueError")) (e1 notP (hotC 2 a (F__law_others c)))))) bNil))) (bSeq (sRet (eV 1)) bNil)))
noncomputable def F__law_refused : List PV → R PV := runF 3 D__law_refused
noncomputable def D_law : Rho → Out := (bSeq (sSet 1 (eD F__law_cell_at (aCons (eV 0) (aCons (eC (.int 0)) aNil)))) (bSeq (sSet 2 (e2 ixP (fun _ => F__law_primes []) (e2 modP (eD F__law_cell_at (aCons (eV 0) (aCons (eC (.int 1)) aNil))) (eC (.int 25))))) (bSeq (sSet 3 (eD F__law_text (aCons (eV 2) (aCons (eD F__law_place (aCons (eD F__law_cell_at (aCons (eV 0) (aCons (eC (.int 2)) aNil))) aNil)) (aCons (eLc [5] (iS (eSl slP (eVo 0) (oSome (eC (.int 5))) (oSome (eC (.int 45))))) (gN 5) cYes (e2 modP (eVo 5) (eVo 2))) aNil))))) (bSeq (sIf (tB1 (e2 eqP (e2 modP (eVo 1) (eC (.int 12))) (eC (.int 11)))) (bSeq (sRet (eD F__law_refused (aCons (e2 ixP (eD lstP (aCons (eC .non) (aCons (eC (.int 7)) (aCons (eD lstP (aCons (eC (.str "2 0 :")) aNil)) (aCons (eD tupP (aCons (eC (.str "2 0 :")) aNil)) (aCons (eC (.bl true)) (aCons (eC .dct) aNil))))))) (e2 modP (e2 fdivP (eVo 1) (eC (.int 12))) (eC (.int 6)))) aNil))) bNil) bNil) (bSeq (sIf (tB1 (e2 gtP (e2 modP (eVo 1) (eC (.int 3))) (eC (.int 0)))) (bSeq (sSet 3 (eD F__law_spoiled (aCons (eV 3) (aCons (eD F__law_cell_at (aCons (eV 0) (aCons (eC (.int 3)) aNil))) (aCons (eD F__law_cell_at (aCons (eV 0) (aCons (eC (.int 4)) aNil))) aNil))))) bNil) bNil) (bSeq (sIf (tB1 (e2 eqP (e2 modP (eVo 1) (eC (.int 3))) (eC (.int 2)))) (bSeq (sSet 3 (eD F__law_spoiled (aCons (eV 3) (aCons (e2 fdivP (eD F__law_cell_at (aCons (eV 0) (aCons (eC (.int 4)) aNil))) (eC (.int 23))) (aCons (e2 fdivP (eD F__law_cell_at (aCons (eV 0) (aCons (eC (.int 3)) aNil))) (eC (.int 7))) aNil))))) bNil) bNil) (bSeq (sSet 4 (eD F__law_due (aCons (eV 3) aNil))) (bSeq (sIf (tB1 (e2 isNP (eVo 4) (eC .non))) (bSeq (sRet (eD F__law_refused (aCons (eV 3) aNil))) bNil) bNil) (bSeq (sRet (e2 eqP (eDN F_readX (aCons (eV 3) aNil)) (eVo 4))) bNil)))))))))
noncomputable def F_law : List PV → R PV := runF 6 D_law
end K18
set_option Elab.async false
set_option linter.all false
set_option maxRecDepth 100000
set_option autoImplicit false
set_option exponentiation.threshold 20000
set_option maxHeartbeats 0
namespace K18
open PySem PySem.Spec L2 PL PM TL
open PyProof.Rows hiding St
theorem f_cell (ns : List Int) (k : Int) (h : 0 ≤ k) : F__law_cell_at [.frz (ns.map PV.int), .int k] = .ok (.int (nth ns k)) := by
  show (D__law_cell_at [.val (.frz (ns.map PV.int)), .val (.int k)]).res = _
  by_cases hk : k < ns.length
  · simp [D__law_cell_at, hk, ixP_intsF h hk]
  · have : ns[k.toNat]? = none := List.getElem?_eq_none (by omega)
    simp [D__law_cell_at, hk, nth, this]
theorem f_place (c : Int) : ∃ e, F__law_place [.int c] = .ok (.int e) ∧ -100000000000000000000000000000 ≤ e ∧ e ≤ 100000000000000000000000000000 := by
  show ∃ e, (D__law_place [.val (.int c)]).res = _ ∧ _
  have h3 : c % 3 = 2 ∨ c % 3 ≠ 2 := by omega
  rcases h3 with h | h
  · refine ⟨c / 3 % 200000000000000000000000000001 - 100000000000000000000000000000, ?_, by omega, by omega⟩
    simp (disch := omega) [D__law_place, modP_pos, fdivP_sm, powP_sm, mulP_sm, h]
  · refine ⟨c / 3 % 81 - 40, ?_, by omega, by omega⟩
    have h' : (c % 3 == 2) = false := by simpa using h
    simp (disch := omega) [D__law_place, modP_pos, fdivP_sm, powP_sm, mulP_sm, h']
theorem joinL_flat (q : List Nat) : ∀ rest : List (List Nat), joinL [32] (q :: rest) = q ++ rest.flatMap (fun r => 32 :: r)
  | [] => by simp [joinL]
  | r :: rest => by rw [joinL, joinL_flat r rest, List.flatMap_cons]; simp
theorem join_tx (l : List (List Nat)) : Txt.join (tx [32]) (l.map tx) = tx (joinL [32] l) := by
  refine ext_tl ?_
  rw [join_eq, tl_join, List.map_map, tl_tx, tl_tx]
  congr 1
  exact List.map_id' l
theorem split_tx (l : List (List Nat)) (hn : l ≠ []) (h : ∀ q ∈ l, 32 ∉ q) : Txt.split (tx (joinL [32] l)) (tx [32]) = l.map tx := by
  rw [← join_tx]
  refine split_join (s := 32) (S := []) rfl (by simp [tx]) (by simpa using hn) fun q hq => ?_
  obtain ⟨r, hr, rfl⟩ := List.mem_map.mp hq
  exact h r hr
theorem sum_le : ∀ (l : List Nat) (n : Nat), (∀ q ∈ l, q ≤ n) → l.sum ≤ n * l.length
  | [], _, _ => by simp
  | q :: l, n, h => by
    have h1 := h q List.mem_cons_self
    have h2 := sum_le l n fun r z => h r (List.mem_cons_of_mem _ z)
    rw [List.sum_cons, List.length_cons, Nat.mul_add]
    omega
theorem splitP_tx (l : List (List Nat)) (hn : l ≠ []) (h : ∀ q ∈ l, 32 ∉ q) (hz : (joinL [32] l).length ≤ 1000000) : splitP (.str (tx (joinL [32] l))) (.str (tx [32])) = .ok (.lst (l.map fun q => PV.str (tx q))) := by
  unfold splitP
  dsimp only
  rw [if_pos ⟨by rw [tx_len]; rfl, by rw [tx_len]; show _ ≤ 2 ^ 24; omega⟩, split_tx l hn h]
  simp
theorem words_of : ∀ l : List Nat, ∃ ws : List (List Nat), ws ≠ [] ∧ joinL [32] ws = l ∧ (∀ q ∈ ws, 32 ∉ q) ∧ ws.length ≤ l.length + 1
  | [] => ⟨[[]], by simp, rfl, fun q hq => by rw [List.mem_singleton.mp hq]; simp, by simp⟩
  | c :: l => by
    obtain ⟨ws, h1, h2, h3, h4⟩ := words_of l
    obtain ⟨w, r, rfl⟩ : ∃ w r, ws = w :: r := by
      cases ws with
      | nil => exact absurd rfl h1
      | cons w r => exact ⟨w, r, rfl⟩
    rw [joinL_flat] at h2
    by_cases hc : c = 32
    · refine ⟨[] :: w :: r, by simp, ?_, fun q hq => ?_, by simp at h4 ⊢; omega⟩
      · rw [joinL_flat, List.flatMap_cons, ← h2, hc]; simp
      · rcases List.mem_cons.mp hq with rfl | hq
        · simp
        · exact h3 q hq
    · refine ⟨(c :: w) :: r, by simp, ?_, fun q hq => ?_, by simp at h4 ⊢; omega⟩
      · rw [joinL_flat, ← h2]; simp
      · rcases List.mem_cons.mp hq with rfl | hq
        · have := h3 w List.mem_cons_self
          simp only [List.mem_cons, not_or]
          exact ⟨fun z => hc z.symm, this⟩
        · exact h3 q (List.mem_cons_of_mem _ hq)
theorem flat_in {q : List Nat} : ∀ {r : List (List Nat)}, q ∈ r → q.length + 1 ≤ (r.flatMap fun r => 32 :: r).length
  | a :: r, h => by
    rw [List.flatMap_cons, List.length_append, List.length_cons]
    rcases List.mem_cons.mp h with rfl | h
    · omega
    · have := flat_in h; omega
theorem word_in {ws : List (List Nat)} {q : List Nat} (h : q ∈ ws) : (∀ c ∈ q, c ∈ joinL [32] ws) ∧ q.length ≤ (joinL [32] ws).length := by
  obtain ⟨w, r, rfl⟩ : ∃ w r, ws = w :: r := by
    cases ws with
    | nil => cases h
    | cons w r => exact ⟨w, r, rfl⟩
  rw [joinL_flat]
  rcases List.mem_cons.mp h with rfl | h
  · exact ⟨fun c hc => List.mem_append_left _ hc, by rw [List.length_append]; omega⟩
  · refine ⟨fun c hc => List.mem_append_right _ (List.mem_flatMap.mpr ⟨q, h, List.mem_cons_of_mem _ hc⟩), ?_⟩
    rw [List.length_append]
    have := flat_in h
    omega
def wv (q : List Nat) : PV := .str (tx q)
theorem f_isnum (l : List Nat) (ha : Asc l) (hl : l.length ≤ 100000) : F__law_is_number [.str (tx l)] = .ok (.bl (numOk l)) := by
  refine (runF_eq (n := 3) (u := D__law_is_number)).trans ?_
  show (D__law_is_number [.val (.str (tx l)), .un, .un]).res = _
  have af := ha.figs
  have lf := figs_len l
  have q1 : slP (.str (tx l)) none (some 1) = .ok (.str (tx (l.take 1))) := by rw [slP_tx _ _ (by omega), cut_take _ _ (by omega)]; rfl
  have e1 : eqP (.str (tx (l.take 1))) (.str (Str.ofString "-")) = .ok (.bl (decide (l.head? = some 45))) := by
    rw [s_dash, eqP_tx (ha.take 1) (by intro d hd; rw [List.mem_singleton.mp hd]; omega)]
    refine congrArg (fun b => R.ok (PV.bl b)) ?_
    cases l with
    | nil => rfl
    | cons c r => simp
  have q2 : slP (.str (tx l)) (some 1) none = .ok (.str (tx (l.drop 1))) := by rw [slP_tx _ _ (by omega), cut_drop _ _ (by omega)]; rfl
  have e3 : eqP (.str (tx (figs l))) (.str (Str.ofString "")) = .ok (.bl (figs l).isEmpty) := by
    rw [s_empty, eqP_tx af Asc.nil]
    cases figs l <;> simp
  have e4 := lenP_tx (l := figs l) (by omega)
  have e5 : gtP (.int ((figs l).length : Int)) (.int 31) = .ok (.bl (!decide ((figs l).length ≤ 31))) := by
    rw [gtP_ii]
    refine congrArg (fun b => R.ok (PV.bl b)) ?_
    by_cases h : (figs l).length ≤ 31
    · rw [decide_eq_true h, decide_eq_false (by omega)]; rfl
    · rw [decide_eq_false h, decide_eq_true (by omega)]; rfl
  have lc : lcGo (gN 2) cYes (e2 inS (eVo 2) (eC (.str (Str.ofString "0123456789")))) [.val (.str (tx l)), .val (.str (tx (figs l))), .un] (signsP (tx (figs l))) = .ok (((figs l).map isDig).map PV.bl) := by
    rw [signs_tx]
    rw [lcGo_map (fun q => match q with | .str z => .bl (match tl z with | [c] => isDig c | _ => false) | q => q) _ fun q hq => ?_, List.map_map, List.map_map]
    · rfl
    · obtain ⟨c, _, rfl⟩ := List.mem_map.mp hq
      refine ⟨_, rfl, ?_⟩
      have : inS (.str (tx [c])) (.str (Str.ofString "0123456789")) = .ok (.bl (isDig c)) := by rw [s_digits, inS_tx, isDig_mem]
      simpa [tl_tx] using this
  have e6 := eLc_ok (vs := [2]) (it := iStrP (eVo 1)) (ρ := [.val (.str (tx l)), .val (.str (tx (figs l))), .un]) rfl (by simp) (by rw [signs_tx, List.length_map]; omega) lc
  have e7 : ((figs l).map isDig).all id = (figs l).all isDig := by rw [List.all_map]; rfl
  have e8 := allP_bl ((figs l).map isDig)
  rw [e7] at e8
  obtain ⟨bs, hbs⟩ : ∃ bs, bs = (figs l).map isDig := ⟨_, rfl⟩
  rw [← hbs] at e6 e8
  have s12 : ∀ {r : R PV} (k : Rho → Out), (k [.val (.str (tx l)), .val (.str (tx (figs l))), .un]).res = r → (bSeq (sSet 1 (eV 0)) (bSeq (sIf (tB1 (e2 eqP (eSl slP (eVo 0) oNone (oSome (eC (.int 1)))) (eC (.str "-")))) (bSeq (sSet 1 (eSl slP (eVo 0) (oSome (eC (.int 1))) oNone)) bNil) bNil) k) [.val (.str (tx l)), .un, .un]).res = r := fun {r} k g => by
    refine stp (.str (tx l)) (by simp) ?_
    simp only [List.set_cons_succ, List.set_cons_zero]
    refine stpW (decide (l.head? = some 45)) (.str (tx (l.drop 1))) (.str (tx l)) (.str (tx (figs l))) (by simp [q1, e1]) (fun _ => by simp [q2]) rfl ?_ ?_
    · unfold figs
      by_cases h : l.head? = some 45
      · rw [if_pos h, decide_eq_true h, if_pos rfl, List.drop_one]
      · rw [if_neg h, decide_eq_false h]; rfl
    · simp only [List.set_cons_succ, List.set_cons_zero]
      exact g
  unfold D__law_is_number
  refine s12 _ ?_
  by_cases h1 : (figs l).isEmpty = false ∧ (figs l).length ≤ 31 ∧ (figs l).all isDig = true
  · obtain ⟨h1, h2, h3⟩ := h1
    refine skp (by simp [e3, h1, e4, e5, h2, e6, e8, h3]) ?_
    obtain ⟨c, r, hc⟩ : ∃ c r, figs l = c :: r := by
      cases hf : figs l with
      | nil => rw [hf] at h1; cases h1
      | cons c r => exact ⟨c, r, rfl⟩
    have e9 : ixP (.str (tx (figs l))) (.int 0) = .ok (.str (tx [c])) := ixP_tx (by omega) (by rw [hc]; rfl) (by omega)
    have e10 : neP (.str (tx [c])) (.str (Str.ofString "0")) = .ok (.bl (!decide (c = 48))) := by
      rw [s_zero, neP_tx (fun d hd => af d (by rw [hc]; rw [List.mem_singleton.mp hd]; exact List.mem_cons_self)) (by intro d hd; rw [List.mem_singleton.mp hd]; omega)]
      simp
    have e11 : eqP (.str (tx l)) (.str (Str.ofString "0")) = .ok (.bl (decide (l = [48]))) := by
      rw [s_zero, eqP_tx ha (by intro d hd; rw [List.mem_singleton.mp hd]; omega)]
    have hd : (figs l).head? = some 48 ↔ c = 48 := by rw [hc]; simp
    have val : numOk l = (!decide (c = 48) || decide (l = [48])) := by
      unfold numOk
      rw [h1, decide_eq_true h2, h3, show decide ((figs l).head? = some 48) = decide (c = 48) from decide_eq_decide.mpr hd]
      simp
    rw [val]
    by_cases h5 : c = 48
    · have e10' : neP (.str (tx [c])) (.str (Str.ofString "0")) = .ok (.bl false) := by rw [e10, decide_eq_true h5]; rfl
      rw [decide_eq_true h5]
      simp [e9, e10', e11]
    · have e10' : neP (.str (tx [c])) (.str (Str.ofString "0")) = .ok (.bl true) := by rw [e10, decide_eq_false h5]; rfl
      rw [decide_eq_false h5]
      simp [e9, e10']
  · have no : numOk l = false := by
      unfold numOk
      by_cases a : (figs l).isEmpty = false
      · by_cases b : (figs l).length ≤ 31
        · have c : (figs l).all isDig = false := by
            cases h : (figs l).all isDig with
            | false => rfl
            | true => exact absurd ⟨a, b, h⟩ h1
          rw [c]; simp
        · rw [decide_eq_false b]; simp
      · have : (figs l).isEmpty = true := by simpa using a
        rw [this]; simp
    rw [no]
    refine ifT ?_ (by simp)
    by_cases a : (figs l).isEmpty = true
    · rw [a] at e3
      simp [e3]
    · have a' : (figs l).isEmpty = false := by simpa using a
      rw [a'] at e3
      by_cases b : (figs l).length ≤ 31
      · have c : (figs l).all isDig = false := by
          cases h : (figs l).all isDig with
          | false => rfl
          | true => exact absurd ⟨a', b, h⟩ h1
        rw [decide_eq_true b] at e5
        rw [c] at e8
        simp only [Bool.not_true, Bool.not_false] at e5 e8
        simp [e3, e4, e5, e6, e8]
      · rw [decide_eq_false b] at e5
        simp only [Bool.not_true, Bool.not_false] at e5
        simp [e3, e4, e5]
def dueW : List (List Nat) → Option (Int × Int × List Int)
  | a :: b :: c :: r => if c = [58] ∧ numOk a = true ∧ numOk b = true ∧ (∀ q ∈ r, numOk q = true) then (if numVal a ∈ primesL ∧ (∀ d ∈ r.reverse.map numVal, 0 ≤ d ∧ d < numVal a) ∧ (r.reverse.map numVal).head? ≠ some 0 then some (numVal a, numVal b, r.reverse.map numVal) else none) else none
  | _ => none
def resD : Option (Int × Int × List Int) → PV
  | none => .non
  | some (p, e, ds) => leftV p e ds
def resR : Option (Int × Int × List Int) → R PV
  | none => .exc "NoText"
  | some (p, e, ds) => .ok (leftV p e ds)
theorem split_ws {ws : List (List Nat)} (h : ws ≠ []) (h32 : ∀ q ∈ ws, 32 ∉ q) (hz : (joinL [32] ws).length ≤ 1000000) : splitP (.str (tx (joinL [32] ws))) (.str (Str.ofString " ")) = .ok (.lst (ws.map wv)) := by
  rw [s_blank]
  exact splitP_tx ws h h32 hz
theorem colon_ne {c : List Nat} (hc : Asc c) : neP (wv c) (.str (Str.ofString ":")) = .ok (.bl (!decide (c = [58]))) := by
  rw [s_colon]
  exact neP_tx hc (by intro d hd; rw [List.mem_singleton.mp hd]; omega)
theorem f_primes : F__law_primes [] = .ok (.lst (primesL.map PV.int)) := rfl
theorem notIn_primes (p : Int) : notInP (.int p) (.lst (primesL.map PV.int)) = .ok (.bl (!decide (p ∈ primesL))) := by
  have e : ((primesL.map PV.int).any fun y => eqV' y (.int p)) = decide (p ∈ primesL) := by
    rw [List.any_map]
    have : ∀ l : List Int, (l.any ((fun y => eqV' y (.int p)) ∘ PV.int)) = decide (p ∈ l) := fun l => by
      induction l with
      | nil => rfl
      | cons a l ih =>
        rw [List.any_cons, ih]
        show (a == p || decide (p ∈ l)) = _
        by_cases h : a = p
        · subst h; simp
        · have : (a == p) = false := by rw [beq_eq_false_iff_ne]; exact h
          rw [this, Bool.false_or]
          refine decide_eq_decide.mpr ⟨fun z => List.mem_cons_of_mem _ z, fun z => (List.mem_cons.mp z).elim (fun y => absurd y.symm h) id⟩
    exact this _
  have f : (flatP (PV.int p) && (primesL.map PV.int).all flatP || isLs (PV.lst (primesL.map PV.int)) && okD 30 (PV.int p) && okD 30 (PV.lst (primesL.map PV.int))) = true := by
    have : (primesL.map PV.int).all flatP = true := rfl
    rw [this]; rfl
  show (if (flatP (PV.int p) && (primesL.map PV.int).all flatP || isLs (PV.lst (primesL.map PV.int)) && okD 30 (PV.int p) && okD 30 (PV.lst (primesL.map PV.int))) = true then R.ok (PV.bl (!(primesL.map PV.int).any fun y => eqV' y (.int p))) else R.stuck) = _
  rw [if_pos f, e]
theorem wv_nums (i : Nat) (ρ : Rho) (hi : i < ρ.length) : ∀ qs : List (List Nat), (∀ q ∈ qs, Asc q ∧ q.length ≤ 100000) → lcGo (gN i) cYes (eD F__law_is_number (aCons (eV i) aNil)) ρ (qs.map wv) = .ok ((qs.map numOk).map PV.bl)
  | [], _ => rfl
  | q :: qs, h => by
    have hq := h q List.mem_cons_self
    have ih := wv_nums i ρ hi qs fun z hz => h z (List.mem_cons_of_mem _ hz)
    have e : eD F__law_is_number (aCons (eV i) aNil) (ρ.set i (.val (wv q))) = .ok (.bl (numOk q)) := by
      simp only [eD_eq, aCons_eq, aNil_eq, eV_of (List.getElem?_set_self hi), bind1]
      exact f_isnum q hq.1 hq.2
    rw [List.map_cons]
    unfold lcGo
    rw [gN_eq]
    dsimp only [cYes]
    rw [e]
    dsimp only
    rw [ih]; rfl
theorem wv_ints (i : Nat) (ρ : Rho) (hi : i < ρ.length) : ∀ qs : List (List Nat), (∀ q ∈ qs, numOk q = true) → lcGo (gN i) cYes (eD intS (aCons (eVo i) aNil)) ρ (qs.map wv) = .ok ((qs.map numVal).map PV.int)
  | [], _ => rfl
  | q :: qs, h => by
    have ih := wv_ints i ρ hi qs fun z hz => h z (List.mem_cons_of_mem _ hz)
    have e : eD intS (aCons (eVo i) aNil) (ρ.set i (.val (wv q))) = .ok (.int (numVal q)) := by
      simp only [eD_eq, aCons_eq, aNil_eq, eVo_of (List.getElem?_set_self hi), bind1]
      exact intS_val (h q List.mem_cons_self)
    rw [List.map_cons]
    unfold lcGo
    rw [gN_eq]
    dsimp only [cYes]
    rw [e]
    dsimp only
    rw [ih]; rfl
theorem num_neg {i : Nat} {ρ : Rho} {p : Int} {X : PV} (h0 : ρ[2]? = some (.val (.int p))) (hi : i < ρ.length) (i2 : i ≠ 2) : ∀ ds : List Int, lcGo (gN i) cYes (eChain leP ltP (eC (.int 0)) (eVo i) (eVo 2)) ρ (ds.map PV.int) = .ok ((ds.map fun d => decide (0 ≤ d) && decide (d < p)).map PV.bl)
  | [] => rfl
  | d :: ds => by
    have ih := num_neg (X := X) h0 hi i2 ds
    have e : eChain leP ltP (eC (.int 0)) (eVo i) (eVo 2) (ρ.set i (.val (.int d))) = .ok (.bl (decide (0 ≤ d) && decide (d < p))) := by
      have g2 : (ρ.set i (.val (.int d)))[2]? = some (.val (.int p)) := by rw [List.getElem?_set_ne i2]; exact h0
      rw [eChain_eq, eVo_of (List.getElem?_set_self hi), eVo_of g2, eC_eq]
      by_cases h : 0 ≤ d
      · simp only [bind1, leP_ii, decide_eq_true h, asB_eq, if_true, ltP_ii, Bool.true_and]
      · simp only [bind1, leP_ii, decide_eq_false h, asB_eq, if_neg Bool.false_ne_true, Bool.false_and]
    rw [List.map_cons]
    unfold lcGo
    rw [gN_eq]
    dsimp only [cYes]
    rw [e]
    dsimp only
    rw [ih]; rfl
theorem f_due {ws : List (List Nat)} (h : ws ≠ []) (h32 : ∀ q ∈ ws, 32 ∉ q) (ha : Asc (joinL [32] ws)) (hz : (joinL [32] ws).length ≤ 100000) (hw : ws.length ≤ 100000) : F__law_due [.str (tx (joinL [32] ws))] = .ok (resD (dueW ws)) := by
  have asc : ∀ q ∈ ws, Asc q ∧ q.length ≤ 100000 := fun q hq => ⟨fun c hc => ha c ((word_in hq).1 c hc), Nat.le_trans (word_in hq).2 hz⟩
  have sp := split_ws h h32 (by omega)
  obtain ⟨T, hT⟩ : ∃ T, T = PV.str (tx (joinL [32] ws)) := ⟨_, rfl⟩
  rw [← hT] at sp ⊢
  refine (runF_eq (n := 6) (u := D__law_due)).trans ?_
  show (D__law_due [.val T, .un, .un, .un, .un, .un]).res = _
  have isT : ∃ z, T = .str z := ⟨_, hT⟩
  obtain ⟨z, hzT⟩ := isT
  have sp' : eM splitP (eVo 0) (eC (.str (Str.ofString " "))) [.val T, .un, .un, .un, .un, .un] = .ok (.lst (ws.map wv)) := by
    rw [hzT] at sp ⊢
    simp only [eM_eq, eVo0, eC_eq, bind1, sp]
  unfold D__law_due
  refine stp (.lst (ws.map wv)) sp' ?_
  simp only [List.set_cons_succ, List.set_cons_zero]
  have ln : lenP [.lst (ws.map wv)] = .ok (.int ws.length) := by simp
  by_cases h3 : ws.length < 3
  · have d : dueW ws = none := by
      match ws, h3 with
      | [], _ => rfl
      | [_], _ => rfl
      | [_, _], _ => rfl
      | _ :: _ :: _ :: _, h => simp at h; omega
    have lt : decide ((ws.length : Int) < 3) = true := decide_eq_true (by omega)
    rw [d]
    refine ifT (by simp only [tOr_eq, tB1_eq, e2_eq, eD_eq, aCons_eq, aNil_eq, eVos, eVo0, eC_eq, bind1, ln, ltP_ii, lt, asB_eq, if_true]) ?_
    simp [resD]
  obtain ⟨a, b, c, r, rfl⟩ : ∃ a b c r, ws = a :: b :: c :: r := by
    match ws, h3 with
    | [], h => exact absurd (by simp) h
    | [_], h => exact absurd (by simp) h
    | [_, _], h => exact absurd (by simp) h
    | a :: b :: c :: r, _ => exact ⟨a, b, c, r, rfl⟩
  have lt : decide (((a :: b :: c :: r).length : Int) < 3) = false := decide_eq_false (by omega)
  have i2 : ixP (.lst ((a :: b :: c :: r).map wv)) (.int 2) = .ok (wv c) := ixP_l2
  have i0 : ixP (.lst ((a :: b :: c :: r).map wv)) (.int 0) = .ok (wv a) := ixP_l0
  have i1 : ixP (.lst ((a :: b :: c :: r).map wv)) (.int 1) = .ok (wv b) := ixP_l1
  have ne := colon_ne (asc c (by simp)).1
  have c2 : slP (.lst ((a :: b :: c :: r).map wv)) none (some 2) = .ok (.lst ([a, b].map wv)) := by rw [slP_l, cut_take _ _ (by omega)]; rfl
  have c3 : slP (.lst ((a :: b :: c :: r).map wv)) (some 3) none = .ok (.lst (r.map wv)) := by rw [slP_l, cut_drop _ _ (by omega)]; rfl
  have ad : addP (.lst ([a, b].map wv)) (.lst (r.map wv)) = .ok (.lst ((a :: b :: r).map wv)) := by
    simp only [List.length_cons] at hw
    rw [addP_ok (by simp; omega)]; rfl
  obtain ⟨WL, hWL⟩ : ∃ WL, WL = PV.lst ((a :: b :: c :: r).map wv) := ⟨_, rfl⟩
  rw [← hWL] at ln i0 i1 i2 c2 c3 ⊢
  have lrr : r.length ≤ 100000 := by simp only [List.length_cons] at hw; omega
  have E1 := eLc_ok (vs := [4]) (it := iS (e2 addP (eSl slP (eVo 1) oNone (oSome (eC (.int 2)))) (eSl slP (eVo 1) (oSome (eC (.int 3))) oNone))) (tgt := gN 4) (test := cYes) (elt := eD F__law_is_number (aCons (eV 4) aNil)) (ρ := [.val T, .val WL, .un, .un, .un, .un]) (items := (a :: b :: r).map wv) rfl (by simp only [iS_eq, e2_eq, eSl_eq, oNone_eq, oSome_eq, eVos, eVo0, eC_eq, bind1, asI_eq, c2, c3, ad, asS_l]) (by rw [List.length_map]; simp; omega) (wv_nums 4 _ (by simp [wipeR]) (a :: b :: r) fun q hq => asc q (by
    rcases List.mem_cons.mp hq with z | hq
    · rw [z]; simp
    · rcases List.mem_cons.mp hq with z | hq
      · rw [z]; simp
      · simp [hq]))
  have A1 := allP_bl ((a :: b :: r).map numOk)
  have all : ((a :: b :: r).map numOk).all id = decide (numOk a = true ∧ numOk b = true ∧ ∀ q ∈ r, numOk q = true) := by
    rw [List.all_map]
    by_cases hh : numOk a = true ∧ numOk b = true ∧ ∀ q ∈ r, numOk q = true
    · rw [decide_eq_true hh]
      refine List.all_eq_true.mpr fun q hq => ?_
      rcases List.mem_cons.mp hq with z | hq
      · rw [z]; exact hh.1
      · rcases List.mem_cons.mp hq with z | hq
        · rw [z]; exact hh.2.1
        · exact hh.2.2 q hq
    · rw [decide_eq_false hh]
      refine Bool.eq_false_iff.mpr fun z => hh ?_
      have z := List.all_eq_true.mp z
      exact ⟨z a (by simp), z b (by simp), fun q hq => z q (by simp [hq])⟩
  rw [all] at A1
  generalize ((a :: b :: r).map numOk).map PV.bl = BS at *
  obtain ⟨cond, hcond⟩ : ∃ cond : Prop, cond = (numOk a = true ∧ numOk b = true ∧ ∀ q ∈ r, numOk q = true) := ⟨_, rfl⟩
  have dw : ∀ x : Option (Int × Int × List Int), (if numVal a ∈ primesL ∧ (∀ d ∈ r.reverse.map numVal, 0 ≤ d ∧ d < numVal a) ∧ (r.reverse.map numVal).head? ≠ some 0 then some (numVal a, numVal b, r.reverse.map numVal) else none) = x → c = [58] → (numOk a = true ∧ numOk b = true ∧ ∀ q ∈ r, numOk q = true) → dueW (a :: b :: c :: r) = x := fun x hx h1 h2 => by
    show (if c = [58] ∧ numOk a = true ∧ numOk b = true ∧ (∀ q ∈ r, numOk q = true) then _ else none) = x
    rw [if_pos ⟨h1, h2⟩]; exact hx
  by_cases hc : c = [58]
  case neg =>
    have d : dueW (a :: b :: c :: r) = none := by
      show (if c = [58] ∧ numOk a = true ∧ numOk b = true ∧ (∀ q ∈ r, numOk q = true) then _ else none) = none
      rw [if_neg (fun z => hc z.1)]
    rw [decide_eq_false hc] at ne
    rw [d]
    refine ifT (by simp only [tOr_eq, tB1_eq, e2_eq, eD_eq, aCons_eq, aNil_eq, eVos, eVo0, eC_eq, bind1, ln, ltP_ii, lt, asB_eq, if_neg Bool.false_ne_true, i2, ne, Bool.not_false, if_true]) ?_
    simp [resD]
  rw [decide_eq_true hc] at ne
  by_cases hn : numOk a = true ∧ numOk b = true ∧ ∀ q ∈ r, numOk q = true
  case neg =>
    have d : dueW (a :: b :: c :: r) = none := by
      show (if c = [58] ∧ numOk a = true ∧ numOk b = true ∧ (∀ q ∈ r, numOk q = true) then _ else none) = none
      rw [if_neg (fun z => hn z.2)]
    rw [decide_eq_false hn] at A1
    rw [d]
    refine ifT (by simp only [tOr_eq, tNt_eq, tB1_eq, e2_eq, eD_eq, aCons_eq, aNil_eq, eVos, eVo0, eC_eq, bind1, ln, ltP_ii, lt, asB_eq, if_neg Bool.false_ne_true, i2, ne, Bool.not_true, E1, A1, Bool.not_false]) ?_
    simp [resD]
  rw [decide_eq_true hn] at A1
  refine skp (by simp only [tOr_eq, tNt_eq, tB1_eq, e2_eq, eD_eq, aCons_eq, aNil_eq, eVos, eVo0, eC_eq, bind1, ln, ltP_ii, lt, asB_eq, if_neg Bool.false_ne_true, i2, ne, Bool.not_true, E1, A1]) ?_
  obtain ⟨na, nb, nr⟩ := id hn
  have va : intS [wv a] = .ok (.int (numVal a)) := intS_val na
  have vb : intS [wv b] = .ok (.int (numVal b)) := intS_val nb
  have dw := fun x hx => dw x hx hc hn
  obtain ⟨p, hp⟩ : ∃ p, p = numVal a := ⟨_, rfl⟩
  obtain ⟨ds, hds⟩ : ∃ ds, ds = r.reverse.map numVal := ⟨_, rfl⟩
  rw [← hp, ← hds] at dw
  rw [← hp] at va
  have ld : ds.length ≤ 100000 := by rw [hds]; simp; omega
  refine stp (.int p) (by simp only [e2_eq, eD_eq, aCons_eq, aNil_eq, eVos, eVo0, eC_eq, bind1, i0, va]) ?_
  simp only [List.set_cons_succ, List.set_cons_zero]
  have E2 := eLc_ok (vs := [4]) (it := iRv (eSl slP (eVo 1) (oSome (eC (.int 3))) oNone)) (tgt := gN 4) (test := cYes) (elt := eD intS (aCons (eVo 4) aNil)) (ρ := [.val T, .val WL, .val (.int p), .un, .un, .un]) (items := r.reverse.map wv) rfl (by simp [c3]) (by simp; omega) (wv_ints 4 _ (by simp [wipeR]) r.reverse fun q hq => nr q (by simpa using hq))
  rw [← hds] at E2
  refine stp (.lst (ds.map PV.int)) (by rw [E2]) ?_
  simp only [List.set_cons_succ, List.set_cons_zero]
  have E3 := eLc_ok (vs := [5]) (it := iS (eV 3)) (tgt := gN 5) (test := cYes) (elt := eChain leP ltP (eC (.int 0)) (eVo 5) (eVo 2)) (ρ := [.val T, .val WL, .val (.int p), .val (.lst (ds.map PV.int)), .un, .un]) (items := ds.map PV.int) rfl (by simp) (by simp; omega) (num_neg (X := .non) (p := p) rfl (by simp [wipeR]) (by omega) ds)
  have A3 := allP_bl (ds.map fun d => decide (0 ≤ d) && decide (d < p))
  have all3 : (ds.map fun d => decide (0 ≤ d) && decide (d < p)).all id = decide (∀ d ∈ ds, 0 ≤ d ∧ d < p) := by
    rw [List.all_map]
    by_cases hh : ∀ d ∈ ds, 0 ≤ d ∧ d < p
    · rw [decide_eq_true hh]
      exact List.all_eq_true.mpr fun d hd => by simp [hh d hd]
    · rw [decide_eq_false hh]
      refine Bool.eq_false_iff.mpr fun z => hh fun d hd => ?_
      have := List.all_eq_true.mp z d hd
      simpa using this
  rw [all3] at A3
  have np := notIn_primes p
  obtain ⟨BB, hBB⟩ : ∃ BB, BB = (ds.map fun d => decide (0 ≤ d) && decide (d < p)).map PV.bl := ⟨_, rfl⟩
  rw [← hBB] at E3 A3
  obtain ⟨DS, hDS⟩ : ∃ DS, DS = PV.lst (ds.map PV.int) := ⟨_, rfl⟩
  rw [← hDS] at E3 ⊢
  have fp := f_primes
  by_cases hpp : p ∈ primesL
  case neg =>
    rw [decide_eq_false hpp] at np
    rw [dw none (if_neg (fun z => hpp z.1))]
    refine ifT (by simp only [tOr_eq, tB1_eq, e2_eq, eVos, eVo0, bind1, fp, np, Bool.not_false, asB_eq, if_true]) ?_
    simp [resD]
  rw [decide_eq_true hpp] at np
  by_cases hdd : ∀ d ∈ ds, 0 ≤ d ∧ d < p
  case neg =>
    rw [decide_eq_false hdd] at A3
    rw [dw none (if_neg (fun z => hdd z.2.1))]
    refine ifT (by simp only [tOr_eq, tNt_eq, tB1_eq, e2_eq, eD_eq, aCons_eq, aNil_eq, eVos, eVo0, bind1, fp, np, Bool.not_true, asB_eq, if_neg Bool.false_ne_true, E3, A3, Bool.not_false]) ?_
    simp [resD]
  rw [decide_eq_true hdd] at A3
  refine skp (by simp only [tOr_eq, tNt_eq, tB1_eq, e2_eq, eD_eq, aCons_eq, aNil_eq, eVos, eVo0, bind1, fp, np, Bool.not_true, asB_eq, if_neg Bool.false_ne_true, E3, A3]) ?_
  have l0 : lstP [] = .ok (.lst []) := rfl
  have tl : tupleP [DS] = .ok (.tup (ds.map PV.int)) := by rw [hDS]; simp
  have t3 : tupP [.int p, .int (numVal b), .tup (ds.map PV.int)] = .ok (leftV p (numVal b) ds) := tupP3
  have end_ : ((bSeq (sRet (eD tupP (aCons (eV 2) (aCons (eD intS (aCons (e2 ixP (eVo 1) (eC (.int 1))) aNil)) (aCons (eD tupleP (aCons (eVo 3) aNil)) aNil))))) bNil) [.val T, .val WL, .val (.int p), .val DS, .un, .un]).res = .ok (leftV p (numVal b) ds) := by
    simp only [bSeq_eq, sRet_eq, eD_eq, aCons_eq, aNil_eq, e2_eq, eVs, eV0, eVos, eVo0, eC_eq, bind1, i1, vb, tl, t3, st_ok, then_ret, res_ret]
  cases hd0 : ds with
  | nil =>
    have ne0 : neP DS (.lst []) = .ok (.bl false) := by rw [hDS, hd0]; rfl
    rw [dw (some (p, numVal b, ds)) (if_pos ⟨hpp, hdd, by rw [hd0]; simp⟩)]
    refine skp (by simp only [tAn_eq, tB1_eq, e2_eq, eD_eq, aNil_eq, eVos, eVo0, bind1, l0, ne0, asB_eq, if_neg Bool.false_ne_true]) ?_
    exact end_
  | cons d dr =>
    have ne0 : neP DS (.lst []) = .ok (.bl true) := by rw [hDS, hd0, neP_ok (by simp [okD]) (by simp)]; simp
    have ix0 : ixP DS (.int 0) = .ok (.int d) := by rw [hDS, hd0]; exact ixP_l0
    by_cases hz0 : d = 0
    · have b0 : (d == 0) = true := by rw [beq_iff_eq]; exact hz0
      rw [dw none (if_neg (fun z => z.2.2 (by rw [hd0, hz0]; rfl)))]
      refine ifT (by simp only [tAn_eq, tB1_eq, e2_eq, eD_eq, aNil_eq, eVos, eVo0, eC_eq, bind1, l0, ne0, asB_eq, if_true, ix0, eqP_ii, b0]) ?_
      simp [resD]
    · have b0 : (d == 0) = false := by rw [beq_eq_false_iff_ne]; exact hz0
      rw [dw (some (p, numVal b, ds)) (if_pos ⟨hpp, hdd, by rw [hd0]; simpa using hz0⟩)]
      refine skp (by simp only [tAn_eq, tB1_eq, e2_eq, eD_eq, aNil_eq, eVos, eVo0, eC_eq, bind1, l0, ne0, asB_eq, if_true, ix0, eqP_ii, b0]) ?_
      exact end_
theorem go_nums (ρ : Rho) (hi : 6 < ρ.length) : ∀ qs : List (List Nat), (∀ q ∈ qs, Asc q ∧ q.length ≤ 100000) → lcGoE (gN 6) (eD F_number_of (aCons (eV 6) aNil)) ρ (qs.map wv) = if ∀ q ∈ qs, numOk q = true then .ok ((qs.map numVal).map PV.int) else .exc "NoText"
  | [], _ => by rw [if_pos (fun _ z => nomatch z)]; rfl
  | q :: qs, h => by
    have hq := h q List.mem_cons_self
    have ih := go_nums ρ hi qs fun z hz => h z (List.mem_cons_of_mem _ hz)
    have fn := f_number_of q hq.1 hq.2
    have e : eD F_number_of (aCons (eV 6) aNil) (ρ.set 6 (.val (wv q))) = F_number_of [.str (tx q)] := by
      simp only [eD_eq, aCons_eq, aNil_eq, eV_of (List.getElem?_set_self hi), bind1]; rfl
    rw [List.map_cons]
    unfold lcGoE
    rw [gN_eq]
    dsimp only
    rw [e, fn]
    by_cases hk : numOk q = true
    · rw [if_pos hk]
      dsimp only
      rw [ih]
      by_cases hr : ∀ q ∈ qs, numOk q = true
      · rw [if_pos hr, if_pos (fun z hz => (List.mem_cons.mp hz).elim (fun e => by rw [e]; exact hk) (hr z))]; rfl
      · rw [if_neg hr, if_neg (fun z => hr fun y hy => z y (List.mem_cons_of_mem _ hy))]; rfl
    · rw [if_neg hk, if_neg (fun z => hk (z q List.mem_cons_self))]
theorem stx {i : Nat} {f : Rho → R PV} {k : Rho → Out} {ρ : Rho} {c : Str} (h : f ρ = .exc c) : (bSeq (sSet i f) k ρ).res = .exc c := by
  rw [bSeq_eq, sSet_eq, h]; simp
theorem f_readX {ws : List (List Nat)} (h : ws ≠ []) (h32 : ∀ q ∈ ws, 32 ∉ q) (ha : Asc (joinL [32] ws)) (hz : (joinL [32] ws).length ≤ 100000) (hw : ws.length ≤ 100000) : F_readX [.str (tx (joinL [32] ws))] = resR (dueW ws) := by
  have asc : ∀ q ∈ ws, Asc q ∧ q.length ≤ 100000 := fun q hq => ⟨fun c hc => ha c ((word_in hq).1 c hc), Nat.le_trans (word_in hq).2 hz⟩
  have sp := split_ws h h32 (by omega)
  have is : isiP "str" (.str (tx (joinL [32] ws))) = .ok (.bl true) := by rw [isi_str]; rfl
  obtain ⟨T, hT⟩ : ∃ T, T = PV.str (tx (joinL [32] ws)) := ⟨_, rfl⟩
  rw [← hT] at sp is ⊢
  refine (runF_eq (n := 7) (u := D_readX)).trans ?_
  show (D_readX [.val T, .un, .un, .un, .un, .un, .un]).res = _
  have isT : ∃ z, T = .str z := ⟨_, hT⟩
  obtain ⟨z, hzT⟩ := isT
  have sp' : eM splitP (eVo 0) (eC (.str (Str.ofString " "))) [.val T, .un, .un, .un, .un, .un, .un] = .ok (.lst (ws.map wv)) := by
    rw [hzT] at sp ⊢
    simp only [eM_eq, eVo0, eC_eq, bind1, sp]
  unfold D_readX
  refine skp (by simp only [tNt_eq, tB1_eq, e1_eq, eVo0, bind1, is, asB_eq, Bool.not_true]) ?_
  refine stp (.lst (ws.map wv)) sp' ?_
  simp only [List.set_cons_succ, List.set_cons_zero]
  have ln : lenP [.lst (ws.map wv)] = .ok (.int ws.length) := by simp
  by_cases h3 : ws.length < 3
  · have d : dueW ws = none := by
      match ws, h3 with
      | [], _ => rfl
      | [_], _ => rfl
      | [_, _], _ => rfl
      | _ :: _ :: _ :: _, h => simp at h; omega
    have lt : decide ((ws.length : Int) < 3) = true := decide_eq_true (by omega)
    rw [d]
    refine ifT (by simp only [tOr_eq, tB1_eq, e2_eq, eD_eq, aCons_eq, aNil_eq, eVos, eVo0, eC_eq, bind1, ln, ltP_ii, lt, asB_eq, if_true]) ?_
    rfl
  obtain ⟨a, b, c, r, rfl⟩ : ∃ a b c r, ws = a :: b :: c :: r := by
    match ws, h3 with
    | [], h => exact absurd (by simp) h
    | [_], h => exact absurd (by simp) h
    | [_, _], h => exact absurd (by simp) h
    | a :: b :: c :: r, _ => exact ⟨a, b, c, r, rfl⟩
  have lt : decide (((a :: b :: c :: r).length : Int) < 3) = false := decide_eq_false (by omega)
  have i2 : ixP (.lst ((a :: b :: c :: r).map wv)) (.int 2) = .ok (wv c) := ixP_l2
  have i0 : ixP (.lst ((a :: b :: c :: r).map wv)) (.int 0) = .ok (wv a) := ixP_l0
  have i1 : ixP (.lst ((a :: b :: c :: r).map wv)) (.int 1) = .ok (wv b) := ixP_l1
  have ne := colon_ne (asc c (by simp)).1
  have c3 : slP (.lst ((a :: b :: c :: r).map wv)) (some 3) none = .ok (.lst (r.map wv)) := by rw [slP_l, cut_drop _ _ (by omega)]; rfl
  obtain ⟨WL, hWL⟩ : ∃ WL, WL = PV.lst ((a :: b :: c :: r).map wv) := ⟨_, rfl⟩
  rw [← hWL] at ln i0 i1 i2 c3 ⊢
  have lrr : r.length ≤ 100000 := by simp only [List.length_cons] at hw; omega
  have no : ¬ (c = [58] ∧ numOk a = true ∧ numOk b = true ∧ ∀ q ∈ r, numOk q = true) → dueW (a :: b :: c :: r) = none := fun z => by
    show (if c = [58] ∧ numOk a = true ∧ numOk b = true ∧ (∀ q ∈ r, numOk q = true) then _ else none) = none
    rw [if_neg z]
  have fa : F_number_of [wv a] = _ := f_number_of a (asc a (by simp)).1 (asc a (by simp)).2
  have fb : F_number_of [wv b] = _ := f_number_of b (asc b (by simp)).1 (asc b (by simp)).2
  by_cases hc : c = [58]
  case neg =>
    rw [decide_eq_false hc] at ne
    rw [no (fun z => hc z.1)]
    refine ifT (by simp only [tOr_eq, tB1_eq, e2_eq, eD_eq, aCons_eq, aNil_eq, eVos, eVo0, eC_eq, bind1, ln, ltP_ii, lt, asB_eq, if_neg Bool.false_ne_true, i2, ne, Bool.not_false]) ?_
    rfl
  rw [decide_eq_true hc] at ne
  refine skp (by simp only [tOr_eq, tB1_eq, e2_eq, eD_eq, aCons_eq, aNil_eq, eVos, eVo0, eC_eq, bind1, ln, ltP_ii, lt, asB_eq, if_neg Bool.false_ne_true, i2, ne, Bool.not_true]) ?_
  by_cases na : numOk a = true
  case neg =>
    rw [if_neg na] at fa
    rw [no (fun z => na z.2.1)]
    exact stx (by simp only [eD_eq, aCons_eq, aNil_eq, e2_eq, eVos, eVo0, eC_eq, bind1, i0, fa])
  rw [if_pos na] at fa
  refine stp (.int (numVal a)) (by simp only [eD_eq, aCons_eq, aNil_eq, e2_eq, eVos, eVo0, eC_eq, bind1, i0, fa]) ?_
  simp only [List.set_cons_succ, List.set_cons_zero]
  by_cases nb : numOk b = true
  case neg =>
    rw [if_neg nb] at fb
    rw [no (fun z => nb z.2.2.1)]
    exact stx (by simp only [eD_eq, aCons_eq, aNil_eq, e2_eq, eVos, eVo0, eC_eq, bind1, i1, fb])
  rw [if_pos nb] at fb
  refine stp (.int (numVal b)) (by simp only [eD_eq, aCons_eq, aNil_eq, e2_eq, eVos, eVo0, eC_eq, bind1, i1, fb]) ?_
  simp only [List.set_cons_succ, List.set_cons_zero]
  have gn := go_nums (wipeR [.val T, .val WL, .val (.int (numVal a)), .val (.int (numVal b)), .un, .un, .un] [6]) (by simp [wipeR]) r.reverse fun q hq => asc q (by simp at hq; simp [hq])
  have it : iRv (eSl slP (eVo 1) (oSome (eC (.int 3))) oNone) [.val T, .val WL, .val (.int (numVal a)), .val (.int (numVal b)), .un, .un, .un] = .ok (r.reverse.map wv) := by simp [c3]
  have EL : eLcE [6] (iRv (eSl slP (eVo 1) (oSome (eC (.int 3))) oNone)) (gN 6) (eD F_number_of (aCons (eV 6) aNil)) [.val T, .val WL, .val (.int (numVal a)), .val (.int (numVal b)), .un, .un, .un] = ((if ∀ q ∈ r.reverse, numOk q = true then R.ok ((r.reverse.map numVal).map PV.int) else .exc "NoText").bind fun qs => .ok (.lst qs)) := by
    have hno : ([6] : List Nat).all (notOwn [.val T, .val WL, .val (.int (numVal a)), .val (.int (numVal b)), .un, .un, .un]) = true := rfl
    unfold eLcE
    rw [if_pos hno, it, R.bind_ok, if_pos (by rw [List.length_map, List.length_reverse, sizeLine_eq]; omega), gn]
  have rv : (∀ q ∈ r.reverse, numOk q = true) ↔ ∀ q ∈ r, numOk q = true := by simp
  by_cases nr : ∀ q ∈ r, numOk q = true
  case neg =>
    rw [if_neg (fun z => nr (rv.mp z))] at EL
    rw [no (fun z => nr z.2.2.2)]
    exact stx EL
  rw [if_pos (rv.mpr nr), R.bind_ok] at EL
  have dw : ∀ x : Option (Int × Int × List Int), (if numVal a ∈ primesL ∧ (∀ d ∈ r.reverse.map numVal, 0 ≤ d ∧ d < numVal a) ∧ (r.reverse.map numVal).head? ≠ some 0 then some (numVal a, numVal b, r.reverse.map numVal) else none) = x → dueW (a :: b :: c :: r) = x := fun x hx => by
    show (if c = [58] ∧ numOk a = true ∧ numOk b = true ∧ (∀ q ∈ r, numOk q = true) then _ else none) = x
    rw [if_pos ⟨hc, na, nb, nr⟩]; exact hx
  obtain ⟨p, hp⟩ : ∃ p, p = numVal a := ⟨_, rfl⟩
  obtain ⟨e, he⟩ : ∃ e, e = numVal b := ⟨_, rfl⟩
  obtain ⟨ds, hds⟩ : ∃ ds, ds = r.reverse.map numVal := ⟨_, rfl⟩
  rw [← hp, ← he, ← hds] at dw
  rw [← hp, ← he, ← hds] at EL
  rw [← hp, ← he]
  have ld : ds.length ≤ 100000 := by rw [hds]; simp; omega
  refine stp (.lst (ds.map PV.int)) EL ?_
  simp only [List.set_cons_succ, List.set_cons_zero]
  obtain ⟨DS, hDS⟩ : ∃ DS, DS = PV.lst (ds.map PV.int) := ⟨_, rfl⟩
  rw [← hDS]
  -- the try
  have bad : ∀ (k : Str), k ∈ csL → F_left_number [.int p, .int e, DS] = .exc k → ((bSeq (sTryR csL (bSeq (sSet 5 (eD F_left_number (aCons (eV 2) (aCons (eV 3) (aCons (eV 4) aNil))))) bNil) (bSeq (sRaise "NoText") bNil) (bSeq (sIf (tB1 (e2 neP (e2 ixP (eVo 5) (eC (.int 1))) (eVo 3))) (bSeq (sRaise "NoText") bNil) bNil) (bSeq (sRet (eV 5)) bNil))) bNil) [.val T, .val WL, .val (.int p), .val (.int e), .val DS, .un, .un]).res = .exc "NoText" := fun k hk hf => by
    have b : bSeq (sSet 5 (eD F_left_number (aCons (eV 2) (aCons (eV 3) (aCons (eV 4) aNil))))) bNil [.val T, .val WL, .val (.int p), .val (.int e), .val DS, .un, .un] = .exc k [.val T, .val WL, .val (.int p), .val (.int e), .val DS, .un, .un] := by
      simp only [bSeq_eq, sSet_eq, eD_eq, aCons_eq, aNil_eq, eVs, eV0, bind1, hf, st_exc, then_exc]
    rw [bSeq_eq]
    unfold sTryR
    rw [b]
    dsimp only
    rw [if_pos hk]
    rfl
  by_cases hpp : p ∈ primesL
  case neg =>
    rw [dw none (if_neg (fun z => hpp z.1))]
    exact bad "NoPrime" (by decide) (f_left_noP _ _ _ (by simp [isP, hpp]))
  by_cases hdd : ∀ d ∈ ds, 0 ≤ d ∧ d < p
  case neg =>
    rw [dw none (if_neg (fun z => hdd z.2.1))]
    refine bad "NoFigures" (by decide) (f_left_noF _ _ _ (by simp [isP, hpp]) rfl ?_)
    rw [hDS, f_are_l p _ (by rw [List.length_map]; omega)]
    refine congrArg (fun b => R.ok (PV.bl b)) (Bool.eq_false_iff.mpr fun z => hdd fun d hd => ?_)
    have := List.all_eq_true.mp z (.int d) (List.mem_map.mpr ⟨d, hd, rfl⟩)
    unfold figOk at this
    simpa using this
  have lf := f_left p e DS ds hpp (.inl hDS) (by omega) hdd
  have run : (bSeq (sSet 5 (eD F_left_number (aCons (eV 2) (aCons (eV 3) (aCons (eV 4) aNil))))) bNil) [.val T, .val WL, .val (.int p), .val (.int e), .val DS, .un, .un] = .next [.val T, .val WL, .val (.int p), .val (.int e), .val DS, .val (leftV p (e + lead ds) (strip ds)), .un] := by
    simp only [bSeq_eq, sSet_eq, eD_eq, aCons_eq, aNil_eq, eVs, eV0, bind1, lf, st_ok, then_next, bNil_eq, List.set_cons_succ, List.set_cons_zero]
  have x1 : ixP (leftV p (e + lead ds) (strip ds)) (.int 1) = .ok (.int (e + lead ds)) := by simp [leftV]
  rw [bSeq_eq]
  unfold sTryR
  rw [run]
  dsimp only
  by_cases h0 : ds.head? = some 0
  · have l0 : lead ds ≠ 0 := fun z => by
      cases ds with
      | nil => cases h0
      | cons d dr =>
        have := Option.some.inj h0
        subst this
        unfold lead at z
        simp at z
    have nn : (!((e + (lead ds : Int)) == e)) = true := by
      have : ((e + (lead ds : Int)) == e) = false := by rw [beq_eq_false_iff_ne]; omega
      rw [this]; rfl
    rw [dw none (if_neg (fun z => z.2.2 h0))]
    simp only [bSeq_eq, sIf_eq, tB1_eq, e2_eq, eVos, eVo0, eC_eq, bind1, x1, neP_ii, nn, asB_eq, stB_ok, if_true]
    rfl
  · have hl := head_lead h0
    rw [hl.1, hl.2, Int.natCast_zero, Int.add_zero] at x1 ⊢
    have nn : (!(e == e)) = false := by simp
    rw [dw (some (p, e, ds)) (if_pos ⟨hpp, hdd, h0⟩)]
    simp only [bSeq_eq, sIf_eq, tB1_eq, e2_eq, eVos, eVo0, eC_eq, bind1, x1, neP_ii, nn, asB_eq, stB_ok, if_neg Bool.false_ne_true, bNil_eq, then_next, sRet_eq, eVs, eV0, st_ok, then_ret, res_ret]
    rfl
theorem f_others (a : Addr) : F__law_others "NoText" a = .ok (.bl false) := by
  refine (runX_eq (n := 2) (g := D__law_others "NoText" a)).trans ?_
  show (D__law_others "NoText" a [.ex a, .un]).res = _
  have k1 : subX "NoText" "NoPrime" = false := by decide
  have k2 : subX "NoText" "NoPlace" = false := by decide
  have k3 : subX "NoText" "NoFigures" = false := by decide
  have k4 : subX "NoText" "NoFraction" = false := by decide
  have k5 : subX "NoText" "Unlike" = false := by decide
  have k6 : subX "NoText" "NoQuotient" = false := by decide
  have k7 : subX "NoText" "NoPower" = false := by decide
  have k8 : subX "NoText" "TooFew" = false := by decide
  have k9 : subX "NoText" "NoSize" = false := by decide
  have k10 : subX "NoText" "NoPolynomial" = false := by decide
  have k11 : subX "NoText" "NoDepth" = false := by decide
  have k12 : subX "NoText" "NoRoot" = false := by decide
  have k13 : subX "NoText" "NotNear" = false := by decide
  have a1 : addP (.lst [.bl false, .bl false, .bl false, .bl false]) (.lst [.bl false, .bl false, .bl false, .bl false]) = .ok (.lst [.bl false, .bl false, .bl false, .bl false, .bl false, .bl false, .bl false, .bl false]) := addP_ok (by simp)
  have a2 : addP (.lst [.bl false, .bl false, .bl false, .bl false, .bl false, .bl false, .bl false, .bl false]) (.lst [.bl false, .bl false, .bl false, .bl false]) = .ok (.lst [.bl false, .bl false, .bl false, .bl false, .bl false, .bl false, .bl false, .bl false, .bl false, .bl false, .bl false, .bl false]) := addP_ok (by simp)
  have a3 : anyP [.lst [.bl false, .bl false, .bl false, .bl false, .bl false, .bl false, .bl false, .bl false, .bl false, .bl false, .bl false, .bl false]] = .ok (.bl false) := anyP_bl (List.replicate 12 false)
  simp [D__law_others, k1, k2, k3, k4, k5, k6, k7, k8, k9, k10, k11, k12, k13, a1, a2, a3]
theorem f_refused {q : PV} (h : F_readX [q] = .exc "NoText") : F__law_refused [q] = .ok (.bl true) := by
  refine (runF_eq (n := 3) (u := D__law_refused)).trans ?_
  show (D__law_refused [.val q, .un, .un]).res = _
  have k1 : subX "NoText" "NoText" = true := by decide
  have k2 : subX "NoText" "ValueError" = true := by decide
  unfold D__law_refused
  refine stp (.bl false) rfl ?_
  simp only [List.set_cons_succ, List.set_cons_zero]
  have t : sTry 2 csL (bSeq (sDrop (eD F_readX (aCons (eV 0) aNil))) bNil) (fun c a => (bSeq (sSet 1 (eAn (isX 2 a (subX c "NoText")) (eAn (isX 2 a (subX c "ValueError")) (e1 notP (hotC 2 a (F__law_others c)))))) bNil)) [.val q, .val (.bl false), .un] = .next [.val q, .val (.bl true), .un] :=
    sTry_exc (c := "NoText") (ρ' := [.val q, .val (.bl false), .un]) (by simp [h]) (by decide) fun a => by
      simp [k1, k2, hotC0 (f_others a)]
  rw [bSeq_eq, t]
  simp
theorem read_no {q : PV} (h : isiP "str" q = .ok (.bl false)) : F_readX [q] = .exc "NoText" := by
  refine (runF_eq (n := 7) (u := D_readX)).trans ?_
  show (D_readX [.val q, .un, .un, .un, .un, .un, .un]).res = _
  unfold D_readX
  refine ifT (by simp only [tNt_eq, tB1_eq, e1_eq, eVo0, bind1, h, asB_eq]; rfl) ?_
  rfl
/-- a written text of the lower signs, not too long -/
def Tx_ (n : Nat) (x : PV) : Prop := ∃ l, x = .str (tx l) ∧ Asc l ∧ l.length ≤ n
theorem tx_lit (s : Str) (n : Nat) (h : ((tl s).all (fun c => decide (c < 128)) && decide ((tl s).length ≤ n)) = true) : Tx_ n (.str s) := by
  rw [Bool.and_eq_true] at h
  exact ⟨tl s, by rw [tx_tl], fun c hc => of_decide_eq_true (List.all_eq_true.mp h.1 c hc), of_decide_eq_true h.2⟩
def sgS : List Str := ["0", "1", "2", "3", "7", "9", " ", " ", ":", "-", "+", "_", ".", "/", ",", "a", "e", "~", "(", "'", "\t", "\n", "  "]
theorem sg_all : sgS.all (fun s => (tl s).all (fun c => decide (c < 128)) && decide ((tl s).length ≤ 4)) = true := by decide +kernel
theorem sg_at (k : Int) (h0 : 0 ≤ k) (h1 : k < 23) : ∃ g, ixP (.lst (sgS.map PV.str)) (.int k) = .ok (.str (tx g)) ∧ Asc g ∧ g.length ≤ 4 := by
  have hl : k.toNat < sgS.length := by show k.toNat < 23; omega
  have hm : sgS[k.toNat] ∈ sgS := List.getElem_mem hl
  obtain ⟨g, e, a, l⟩ := tx_lit _ 4 (List.all_eq_true.mp sg_all _ hm)
  refine ⟨g, ?_, a, l⟩
  rw [← e]
  exact ixP_lst h0 (by rw [List.getElem?_map, List.getElem?_eq_getElem hl]; rfl)
def smS : List Str := ["", "-0", "00", "01", "+1", "--1", "1_0", "97", "98", "4", "1", ":"]
theorem sm_all : smS.all (fun s => (tl s).all (fun c => decide (c < 128)) && decide ((tl s).length ≤ 40)) = true := by decide +kernel
theorem one_z : Str.ofString "1" = tx [49] := by decide +kernel
theorem rep0 (k : Nat) (h2 : 2 ≤ k) (h : k ≤ 40) : repS (.str "0") (.int (k : Int)) = .ok (.str (tx (List.replicate k [48]).flatten)) := by
  have := repS_ok (l := [48]) (k := (k : Int)) (by omega) (by omega) (by simp) (by simp)
  rw [Int.toNat_natCast] at this
  show repS (.str (Str.ofString "0")) _ = _
  rw [s_zero]
  exact this
theorem rep_flat (k : Nat) : (List.replicate k [48]).flatten = List.replicate k 48 := by
  induction k with
  | zero => rfl
  | succ k ih => rw [List.replicate_succ, List.flatten_cons, ih, List.replicate_succ]; rfl
theorem many0 (k : Nat) (h2 : 2 ≤ k) (h : k ≤ 39) : ∃ g, repS (.str "0") (.int (k : Int)) = .ok (.str (tx (List.replicate k 48))) ∧ addP (.str "1") (.str (tx (List.replicate k 48))) = .ok (.str (tx g)) ∧ Asc g ∧ g.length ≤ 40 := by
  refine ⟨[49] ++ List.replicate k 48, ?_, ?_, fun c hc => ?_, by simp; omega⟩
  · rw [rep0 k h2 (by omega), rep_flat]
  · show addP (.str (Str.ofString "1")) _ = _
    rw [one_z]
    exact addP_tx (by simp; omega)
  · rcases List.mem_append.mp hc with h | h
    · rw [List.mem_singleton.mp h]; omega
    · rw [(List.mem_replicate.mp h).2]; omega
theorem sm_at {u v : List Nat} (hu : Asc u ∧ u.length ≤ 40) (hv : Asc v ∧ v.length ≤ 40) (k : Int) (h0 : 0 ≤ k) (h1 : k < 14) : ∃ g, ixP (.lst (smS.map PV.str ++ [.str (tx u), .str (tx v)])) (.int k) = .ok (.str (tx g)) ∧ Asc g ∧ g.length ≤ 40 := by
  have l12 : (smS.map PV.str).length = 12 := rfl
  by_cases h : k < 12
  · have hl : k.toNat < smS.length := by show k.toNat < 12; omega
    have hm : smS[k.toNat] ∈ smS := List.getElem_mem hl
    obtain ⟨g, e, a, l⟩ := tx_lit _ 40 (List.all_eq_true.mp sm_all _ hm)
    refine ⟨g, ?_, a, l⟩
    rw [← e]
    exact ixP_lst h0 (by rw [List.getElem?_append_left (by rw [l12]; omega), List.getElem?_map, List.getElem?_eq_getElem hl]; rfl)
  · rcases (by omega : k = 12 ∨ k = 13) with rfl | rfl
    · exact ⟨u, ixP_lst h0 rfl, hu⟩
    · exact ⟨v, ixP_lst h0 rfl, hv⟩
theorem sum_set {α : Type} (f : α → Nat) (x : α) : ∀ (l : List α) (k : Nat) (h : k < l.length), ((l.set k x).map f).sum + f l[k] = (l.map f).sum + f x
  | a :: l, 0, _ => by simp; omega
  | a :: l, k + 1, h => by
    have := sum_set f x l k (by simpa using h)
    simp at this ⊢
    omega
theorem join_sum (w : List Nat) (r : List (List Nat)) : (joinL [32] (w :: r)).length + 1 = ((w :: r).map fun q => q.length + 1).sum := by
  rw [joinL_flat, List.length_append, List.map_cons, List.sum_cons]
  have : ∀ r : List (List Nat), (r.flatMap fun r => 32 :: r).length = (r.map fun q => q.length + 1).sum := fun r => by
    induction r with
    | nil => rfl
    | cons a r ih => rw [List.flatMap_cons, List.length_append, List.length_cons, ih, List.map_cons, List.sum_cons]
  rw [this r]
  omega
theorem join_set {ws : List (List Nat)} {k : Nat} (h : k < ws.length) (g : List Nat) : (joinL [32] (ws.set k g)).length ≤ (joinL [32] ws).length + g.length := by
  have s := sum_set (fun q : List Nat => q.length + 1) g ws k h
  cases ws with
  | nil => simp at h
  | cons w r =>
    have j1 := join_sum w r
    obtain ⟨w2, r2, e⟩ : ∃ w2 r2, (w :: r).set k g = w2 :: r2 := by
      cases k with
      | zero => exact ⟨_, _, rfl⟩
      | succ k => exact ⟨_, _, rfl⟩
    have j2 := join_sum w2 r2
    rw [e] at s ⊢
    omega
theorem join_any (l : List (List Nat)) (n : Nat) (hl : l.length ≤ 1000) (h : ∀ q ∈ l, q.length ≤ 10000) : joinP (.str (Str.ofString " ")) (.lst (l.map wv)) = .ok (.str (tx (joinL [32] l))) := by
  have e : l.map wv = (l.map tx).map PV.str := by simp [wv]
  rw [s_blank]
  unfold joinP
  dsimp only
  rw [e, asStrs_map]
  dsimp only
  have s := sum_le ((l.map tx).map (·.length)) 10000 fun n hn => by
    simp only [List.map_map, List.mem_map, Function.comp] at hn
    obtain ⟨q, hq, rfl⟩ := hn
    rw [tx_len]; exact h q hq
  rw [List.length_map, List.length_map] at s
  have s2 : 10000 * l.length ≤ 10000 * 1000 := Nat.mul_le_mul_left _ hl
  rw [if_pos (by rw [List.length_map, tx_len]; simp only [List.length_singleton]; omega), join_tx]
theorem join_asc (l : List (List Nat)) (h : ∀ q ∈ l, Asc q) : Asc (joinL [32] l) := by
  cases l with
  | nil => exact Asc.nil
  | cons w r =>
    rw [joinL_flat]
    refine (h w List.mem_cons_self).app fun c hc => ?_
    obtain ⟨q, hq, hc⟩ := List.mem_flatMap.mp hc
    exact Asc.cons (by omega) (h q (List.mem_cons_of_mem _ hq)) c hc
theorem stpM {c k : Rho → Out} {ρ ρ' : Rho} {r : R PV} (h : c ρ = .next ρ') (g : (k ρ').res = r) : (bSeq c k ρ).res = r := by rw [bSeq_eq, h, then_next]; exact g
theorem l20 (a b c d e f g h i j k l m n o p q r s t : PV) : lstP [a, b, c, d, e, f, g, h, i, j, k, l, m, n, o, p, q, r, s, t] = .ok (.lst [a, b, c, d, e, f, g, h, i, j, k, l, m, n, o, p, q, r, s, t]) := rfl
theorem l3 (a b c : PV) : lstP [a, b, c] = .ok (.lst [a, b, c]) := rfl
theorem l14 (a b c d e f g h i j k l m n : PV) : lstP [a, b, c, d, e, f, g, h, i, j, k, l, m, n] = .ok (.lst [a, b, c, d, e, f, g, h, i, j, k, l, m, n]) := rfl
theorem f_spoiled {L : List Nat} (c m : Int) (ha : Asc L) (hl : L.length ≤ 500) : ∃ L2, F__law_spoiled [.str (tx L), .int c, .int m] = .ok (.str (tx L2)) ∧ Asc L2 ∧ L2.length ≤ L.length + 40 := by
  have go : ∀ {r}, (D__law_spoiled [.val (.str (tx L)), .val (.int c), .val (.int m), .un, .un, .un, .un, .un]).res = r → F__law_spoiled [.str (tx L), .int c, .int m] = r := fun h => (runF_eq (n := 8) (u := D__law_spoiled)).trans h
  have d4 := fdivP_sm (a := c) (b := 4) (by omega) (by omega)
  have m4 := modP_pos (a := c) (b := 4) (by omega)
  have ml := modP_pos (a := c / 4) (b := (L.length : Int) + 1) (by omega)
  have m23 := modP_pos (a := m) (b := 23) (by omega)
  have m14 := modP_pos (a := m) (b := 14) (by omega)
  have ln := lenP_tx (l := L) (by omega)
  obtain ⟨t, ht⟩ : ∃ t, t = c / 4 % ((L.length : Int) + 1) := ⟨_, rfl⟩
  have t0 : 0 ≤ t := by rw [ht]; exact Int.emod_nonneg _ (by omega)
  have t1 : t < (L.length : Int) + 1 := by rw [ht]; exact Int.emod_lt_of_pos _ (by omega)
  obtain ⟨g, ig, g1, g2⟩ := sg_at (m % 23) (by omega) (by omega)
  have s1 : slP (.str (tx L)) none (some t) = .ok (.str (tx (L.take t.toNat))) := by rw [slP_tx _ _ (by omega), cut_take _ _ t0]
  have s2 : slP (.str (tx L)) (some t) none = .ok (.str (tx (L.drop t.toNat))) := by rw [slP_tx _ _ (by omega), cut_drop _ _ t0]
  have s3 : slP (.str (tx L)) (some (t + 1)) none = .ok (.str (tx (L.drop (t + 1).toNat))) := by rw [slP_tx _ _ (by omega), cut_drop _ _ (by omega)]
  have l1 : (L.take t.toNat).length ≤ L.length := by rw [List.length_take]; omega
  have l2 : (L.take t.toNat).length + (L.drop t.toNat).length = L.length := by rw [← List.length_append, List.take_append_drop]
  have l3' : (L.drop (t + 1).toNat).length ≤ (L.drop t.toNat).length := by rw [List.length_drop, List.length_drop]; omega
  have a1 := addP_tx (a := L.take t.toNat) (b := g) (by omega)
  have a2 := addP_tx (a := L.take t.toNat ++ g) (b := L.drop t.toNat) (by rw [List.length_append]; omega)
  have a3 := addP_tx (a := L.take t.toNat) (b := L.drop (t + 1).toNat) (by omega)
  have a4 := addP_tx (a := L.take t.toNat ++ g) (b := L.drop (t + 1).toNat) (by rw [List.length_append]; omega)
  obtain ⟨ws, w1, w2, w3, w4⟩ := words_of L
  have sp := split_ws w1 w3 (by rw [w2]; omega)
  rw [w2] at sp
  obtain ⟨X, hX⟩ : ∃ X, X = PV.str (tx L) := ⟨_, rfl⟩
  have isT : ∃ z, X = .str z := ⟨_, hX⟩
  obtain ⟨z, hz⟩ := isT
  rw [← hX] at s1 s2 s3 sp ln go ⊢
  have aT := ha.take t.toNat
  have aD := ha.drop t.toNat
  have aE := ha.drop (t + 1).toNat
  have ad23 : addP (.lst ((sgS.take 20).map PV.str)) (.lst [.str "\t", .str "\n", .str "  "]) = .ok (.lst (sgS.map PV.str)) := by rw [addP_ok (by simp [sgS])]; rfl
  obtain ⟨W, hW⟩ : ∃ W, W = PV.lst (sgS.map PV.str) := ⟨_, rfl⟩
  rw [← hW] at ig ad23
  obtain ⟨W20, hW20⟩ : ∃ W20, W20 = PV.lst ((sgS.take 20).map PV.str) := ⟨_, rfl⟩
  rw [← hW20] at ad23
  have head : ∀ {r : R PV}, ((bSeq (sIf (tB1 (e2 eqP (e2 modP (eVo 1) (eC (.int 4))) (eC (.int 0)))) (bSeq (sRet (e2 addP (e2 addP (eSl slP (eVo 0) oNone (oSome (eV 5))) (eVo 4)) (eSl slP (eVo 0) (oSome (eV 5)) oNone))) bNil) bNil) (bSeq (sIf (tB1 (e2 eqP (e2 modP (eVo 1) (eC (.int 4))) (eC (.int 1)))) (bSeq (sRet (e2 addP (eSl slP (eVo 0) oNone (oSome (eV 5))) (eSl slP (eVo 0) (oSome (e2 addP (eVo 5) (eC (.int 1)))) oNone))) bNil) bNil) (bSeq (sIf (tB1 (e2 eqP (e2 modP (eVo 1) (eC (.int 4))) (eC (.int 2)))) (bSeq (sRet (e2 addP (e2 addP (eSl slP (eVo 0) oNone (oSome (eV 5))) (eVo 4)) (eSl slP (eVo 0) (oSome (e2 addP (eVo 5) (eC (.int 1)))) oNone))) bNil) bNil) (bSeq (sSetO 6 (eM splitP (eVo 0) (eC (.str " ")))) (bSeq (sSet 7 (eD lstP (aCons (eC (.str "")) (aCons (eC (.str "-0")) (aCons (eC (.str "00")) (aCons (eC (.str "01")) (aCons (eC (.str "+1")) (aCons (eC (.str "--1")) (aCons (eC (.str "1_0")) (aCons (eC (.str "97")) (aCons (eC (.str "98")) (aCons (eC (.str "4")) (aCons (eC (.str "1")) (aCons (eC (.str ":")) (aCons (e2 addP (eC (.str "1")) (e2 repS (eC (.str "0")) (eC (.int 30)))) (aCons (e2 addP (eC (.str "1")) (e2 repS (eC (.str "0")) (eC (.int 31)))) aNil)))))))))))))))) (bSeq (sSetI 6 (e2 ixP (eVo 7) (e2 modP (eVo 2) (eC (.int 14)))) (e2 modP (eVo 5) (eD lenP (aCons (eVo 6) aNil)))) (bSeq (sRet (eM joinP (eC (.str " ")) (eVo 6))) bNil))))))) [.val X, .val (.int c), .val (.int m), .val W, .val (.str (tx g)), .val (.int t), .un, .un]).res = r → F__law_spoiled [X, .int c, .int m] = r := fun h => by
    refine go ?_
    unfold D__law_spoiled
    refine stp W20 (by simp only [eD_eq, aCons_eq, aNil_eq, eC_eq, bind1, l20]; rw [hW20]; rfl) ?_
    simp only [List.set_cons_succ, List.set_cons_zero]
    refine stp W (by simp only [e2_eq, eD_eq, aCons_eq, aNil_eq, eVos, eVo0, eC_eq, bind1, l3, ad23]) ?_
    simp only [List.set_cons_succ, List.set_cons_zero]
    refine stp (.str (tx g)) (by simp only [e2_eq, eVos, eVo0, eC_eq, bind1, m23, ig]) ?_
    simp only [List.set_cons_succ, List.set_cons_zero]
    refine stp (.int t) (by simp only [e2_eq, eD_eq, aCons_eq, aNil_eq, eVos, eVo0, eC_eq, bind1, d4, ln, addP_ii, ml, ← ht]) ?_
    simp only [List.set_cons_succ, List.set_cons_zero]
    exact h
  by_cases c0 : c % 4 = 0
  · have b0 : (c % 4 == 0) = true := by rw [beq_iff_eq]; exact c0
    refine ⟨L.take t.toNat ++ g ++ L.drop t.toNat, head ?_, (aT.app g1).app aD, by rw [List.length_append, List.length_append]; omega⟩
    refine ifT (by simp only [tB1_eq, e2_eq, eVos, eVo0, eC_eq, bind1, m4, eqP_ii, b0, asB_eq]) ?_
    simp only [bSeq_eq, sRet_eq, e2_eq, eSl_eq, oNone_eq, oSome_eq, asI_eq, eVs, eV0, eVos, eVo0, eC_eq, bind1, s1, s2, a1, a2, st_ok, then_ret, res_ret]
  have b0 : (c % 4 == 0) = false := by rw [beq_eq_false_iff_ne]; exact c0
  by_cases c1 : c % 4 = 1
  · have b1 : (c % 4 == 1) = true := by rw [beq_iff_eq]; exact c1
    refine ⟨L.take t.toNat ++ L.drop (t + 1).toNat, head ?_, aT.app aE, by rw [List.length_append]; omega⟩
    refine skp (by simp only [tB1_eq, e2_eq, eVos, eVo0, eC_eq, bind1, m4, eqP_ii, b0, asB_eq]) ?_
    refine ifT (by simp only [tB1_eq, e2_eq, eVos, eVo0, eC_eq, bind1, m4, eqP_ii, b1, asB_eq]) ?_
    simp only [bSeq_eq, sRet_eq, e2_eq, eSl_eq, oNone_eq, oSome_eq, asI_eq, eVs, eV0, eVos, eVo0, eC_eq, bind1, addP_ii, s1, s3, a3, st_ok, then_ret, res_ret]
  have b1 : (c % 4 == 1) = false := by rw [beq_eq_false_iff_ne]; exact c1
  by_cases c2 : c % 4 = 2
  · have b2 : (c % 4 == 2) = true := by rw [beq_iff_eq]; exact c2
    refine ⟨L.take t.toNat ++ g ++ L.drop (t + 1).toNat, head ?_, (aT.app g1).app aE, by rw [List.length_append, List.length_append]; omega⟩
    refine skp (by simp only [tB1_eq, e2_eq, eVos, eVo0, eC_eq, bind1, m4, eqP_ii, b0, asB_eq]) ?_
    refine skp (by simp only [tB1_eq, e2_eq, eVos, eVo0, eC_eq, bind1, m4, eqP_ii, b1, asB_eq]) ?_
    refine ifT (by simp only [tB1_eq, e2_eq, eVos, eVo0, eC_eq, bind1, m4, eqP_ii, b2, asB_eq]) ?_
    simp only [bSeq_eq, sRet_eq, e2_eq, eSl_eq, oNone_eq, oSome_eq, asI_eq, eVs, eV0, eVos, eVo0, eC_eq, bind1, addP_ii, s1, s3, a1, a4, st_ok, then_ret, res_ret]
  have b2 : (c % 4 == 2) = false := by rw [beq_eq_false_iff_ne]; exact c2
  -- a word another one
  obtain ⟨u, r30, p30, u1, u2⟩ := many0 30 (by omega) (by omega)
  obtain ⟨v, r31, p31, v1, v2⟩ := many0 31 (by omega) (by omega)
  have r30 : repS (.str "0") (.int 30) = .ok (.str (tx (List.replicate 30 48))) := r30
  have r31 : repS (.str "0") (.int 31) = .ok (.str (tx (List.replicate 31 48))) := r31
  obtain ⟨w, iw, wa, wl⟩ := sm_at ⟨u1, u2⟩ ⟨v1, v2⟩ (m % 14) (by omega) (by omega)
  have wn : 1 ≤ ws.length := List.length_pos_iff.mpr w1
  have mw := modP_pos (a := t) (b := (ws.length : Int)) (by omega)
  obtain ⟨k, hk⟩ : ∃ k : Nat, t % (ws.length : Int) = k := ⟨(t % (ws.length : Int)).toNat, by have := Int.emod_nonneg t (show (ws.length : Int) ≠ 0 by omega); omega⟩
  have kl : k < ws.length := by have := Int.emod_lt_of_pos t (show 0 < (ws.length : Int) by omega); omega
  rw [hk] at mw
  have lw : lenP [.lst (ws.map wv)] = .ok (.int ws.length) := by simp
  have st : setP (ws.map wv) (.str (tx w)) (.int (k : Int)) = .ok ((ws.set k w).map wv) := by
    rw [setP_ok (by omega) (by rw [List.length_map]; omega), List.map_set, Int.toNat_natCast]; rfl
  have ascW : ∀ q ∈ ws, Asc q ∧ q.length ≤ 500 := fun q hq => ⟨fun c hc => ha c (by rw [← w2]; exact (word_in hq).1 c hc), by have := (word_in hq).2; rw [w2] at this; omega⟩
  have ascS : ∀ q ∈ ws.set k w, Asc q ∧ q.length ≤ 500 := fun q hq => (List.mem_or_eq_of_mem_set hq).elim (ascW q) fun e => by rw [e]; exact ⟨wa, by omega⟩
  have jn := join_any (ws.set k w) 500 (by rw [List.length_set]; omega) fun q hq => by have := (ascS q hq).2; omega
  have js := join_set kl w
  rw [w2] at js
  refine ⟨joinL [32] (ws.set k w), head ?_, join_asc _ fun q hq => (ascS q hq).1, by omega⟩
  refine skp (by simp only [tB1_eq, e2_eq, eVos, eVo0, eC_eq, bind1, m4, eqP_ii, b0, asB_eq]) ?_
  refine skp (by simp only [tB1_eq, e2_eq, eVos, eVo0, eC_eq, bind1, m4, eqP_ii, b1, asB_eq]) ?_
  refine skp (by simp only [tB1_eq, e2_eq, eVos, eVo0, eC_eq, bind1, m4, eqP_ii, b2, asB_eq]) ?_
  have sp' : eM splitP (eVo 0) (eC (.str (Str.ofString " "))) [.val X, .val (.int c), .val (.int m), .val W, .val (.str (tx g)), .val (.int t), .un, .un] = .ok (.lst (ws.map wv)) := by
    rw [hz] at sp ⊢
    simp only [eM_eq, eVo0, eC_eq, bind1, sp]
  obtain ⟨WV, hWV⟩ : ∃ WV, WV = ws.map wv := ⟨_, rfl⟩
  rw [← hWV] at sp' lw st
  obtain ⟨WS, hWS⟩ : ∃ WS, WS = (ws.set k w).map wv := ⟨_, rfl⟩
  rw [← hWS] at jn st
  obtain ⟨SM, hSM⟩ : ∃ SM, SM = PV.lst (smS.map PV.str ++ [.str (tx u), .str (tx v)]) := ⟨_, rfl⟩
  rw [← hSM] at iw
  refine stpM (ρ' := [.val X, .val (.int c), .val (.int m), .val W, .val (.str (tx g)), .val (.int t), .own WV, .un]) (by
    simp only [sSetO_eq, sp', st_ok, asL_l, own_ok, List.set_cons_succ, List.set_cons_zero]) ?_
  refine stp SM (by
    simp only [eD_eq, aCons_eq, aNil_eq, e2_eq, eC_eq, bind1, r30, p30, r31, p31, l14]
    rw [hSM]; rfl) ?_
  simp only [List.set_cons_succ, List.set_cons_zero]
  refine stpM (ρ' := [.val X, .val (.int c), .val (.int m), .val W, .val (.str (tx g)), .val (.int t), .own WS, .val SM]) (by
    simp only [sSetI_eq, getOwn0, getOwnS, onOwn_some, e2_eq, eD_eq, aCons_eq, aNil_eq, eVs, eV0, eVos, eVo0, eVo0', eC_eq, bind1, m14, iw, lw, mw, st_ok, st, own_ok, List.set_cons_succ, List.set_cons_zero]) ?_
  simp only [bSeq_eq, sRet_eq, eM_eq, eVos, eVo0', eC_eq, bind1, jn, st_ok, then_ret, res_ret]
theorem forL_one {tgt : PV → Rho → Option Rho} {body : Rho → Out} {q : PV} {ps : List PV} {ρ ρ1 ρ2 : Rho} (h1 : tgt q ρ = some ρ1) (h2 : body ρ1 = .next ρ2) : forL tgt body (q :: ps) ρ = forL tgt body ps ρ2 := by
  rw [forL_cons, h1]
  show Out.fo (body ρ1) (forL tgt body ps) = _
  rw [h2]
  rfl
theorem stpL {it : Rho → R (List PV)} {tgt : PV → Rho → Option Rho} {body k : Rho → Out} {ρ : Rho} {r : R PV} (items : List PV) (ρ' : Rho) (hi : it ρ = .ok items) (hf : forL tgt body items ρ = .next ρ') (g : (k ρ').res = r) : (bSeq (sFor it tgt body) k ρ).res = r := by
  rw [bSeq_eq, sFor_eq, hi]
  show ((forL tgt body items ρ).then k).res = r
  rw [hf, then_next]; exact g
theorem text_loop (p e : Int) (DS : PV) : ∀ (rs : List Int) (acc : List Nat) (s4 : Slot), Asc acc → (∀ d ∈ rs, d.natAbs < 10 ^ 2) → acc.length + 4 * rs.length ≤ 60000 →
    ∃ (acc' : List Nat) (s4' : Slot), forL (gN 4) (bSeq (sSet 3 (e2 addP (e2 addP (eVo 3) (eC (.str " "))) (eD strP (aCons (eVo 4) aNil)))) bNil) (rs.map PV.int) [.val (.int p), .val (.int e), .val DS, .val (.str (tx acc)), s4] = .next [.val (.int p), .val (.int e), .val DS, .val (.str (tx acc')), s4'] ∧ Asc acc' ∧ acc'.length ≤ acc.length + 4 * rs.length
  | [], acc, s4, ha, _, _ => ⟨acc, s4, rfl, ha, by simp⟩
  | d :: rs, acc, s4, ha, hd, hl => by
    rw [List.length_cons] at hl
    have dl := hd d List.mem_cons_self
    have st := strP_num (i := d) (by omega)
    have nl := numT_len d (k := 2) (by omega) dl
    have b1 : addP (.str (tx acc)) (.str (Str.ofString " ")) = .ok (.str (tx (acc ++ [32]))) := by rw [s_blank]; exact addP_tx (by simp; omega)
    have b2 : addP (.str (tx (acc ++ [32]))) (.str (tx (numT d))) = .ok (.str (tx (acc ++ [32] ++ numT d))) := addP_tx (by simp; omega)
    have ll : (acc ++ [32] ++ numT d).length ≤ acc.length + 4 := by simp; omega
    obtain ⟨acc', s4', ih, ia, il⟩ := text_loop p e DS rs (acc ++ [32] ++ numT d) (.val (.int d)) ((ha.app (by intro c hc; rw [List.mem_singleton.mp hc]; omega)).app (numT_asc d)) (fun x hx => hd x (List.mem_cons_of_mem _ hx)) (by omega)
    refine ⟨acc', s4', ?_, ia, by rw [List.length_cons]; omega⟩
    rw [List.map_cons]
    refine (forL_one (ρ1 := [.val (.int p), .val (.int e), .val DS, .val (.str (tx acc)), .val (.int d)]) rfl ?_).trans ih
    simp [st, b1, b2]
theorem f_text {p e : Int} {ds : List Int} (hp : p ∈ primesL) (he : e.natAbs < 10 ^ 30) (hd : ∀ d ∈ ds, 0 ≤ d ∧ d < p) (hl : ds.length ≤ 60) : ∃ L, F__law_text [.int p, .int e, .lst (ds.map PV.int)] = .ok (.str (tx L)) ∧ Asc L ∧ L.length ≤ 400 := by
  have pb := primesL_le p hp
  have s0 := strP_num (i := p) (by omega)
  have s1 := strP_num (i := e) (by omega)
  have lp := numT_len p (k := 2) (by omega) (by omega)
  have le := numT_len e (k := 30) (by omega) he
  have a1 : addP (.str (tx (numT p))) (.str (Str.ofString " ")) = .ok (.str (tx (numT p ++ [32]))) := by rw [s_blank]; exact addP_tx (by simp; omega)
  have a2 : addP (.str (tx (numT p ++ [32]))) (.str (tx (numT e))) = .ok (.str (tx (numT p ++ [32] ++ numT e))) := addP_tx (by simp; omega)
  have a3 : addP (.str (tx (numT p ++ [32] ++ numT e))) (.str (Str.ofString " :")) = .ok (.str (tx (numT p ++ [32] ++ numT e ++ [32, 58]))) := by rw [s_bcolon]; exact addP_tx (by simp; omega)
  have tl : (numT p ++ [32] ++ numT e ++ [32, 58]).length ≤ 40 := by simp; omega
  have ta : Asc (numT p ++ [32] ++ numT e ++ [32, 58]) := (((numT_asc p).app (by intro c hc; rw [List.mem_singleton.mp hc]; omega)).app (numT_asc e)).app (by
    intro c hc
    simp at hc
    omega)
  obtain ⟨L, s4, lo, la, ll⟩ := text_loop p e (.lst (ds.map PV.int)) ds.reverse (numT p ++ [32] ++ numT e ++ [32, 58]) .un ta (fun d h => by
    have := hd d (by simpa using h)
    omega) (by rw [List.length_reverse]; omega)
  rw [List.length_reverse] at ll
  refine ⟨L, (runF_eq (n := 5) (u := D__law_text)).trans ?_, la, by omega⟩
  show (D__law_text [.val (.int p), .val (.int e), .val (.lst (ds.map PV.int)), .un, .un]).res = _
  unfold D__law_text
  refine stp (.str (tx (numT p ++ [32] ++ numT e ++ [32, 58]))) (by simp only [e2_eq, eD_eq, aCons_eq, aNil_eq, eVos, eVo0, bind1, eC_eq, s0, s1, a1, a2, a3]) ?_
  simp only [List.set_cons_succ, List.set_cons_zero]
  refine stpL (ds.reverse.map PV.int) _ (by simp) lo ?_
  simp
theorem eq_left (p e : Int) (ds : List Int) : eqP (leftV p e ds) (leftV p e ds) = .ok (.bl true) := eqLeft p e ds
theorem law_end {L : List Nat} (ha : Asc L) (hl : L.length ≤ 1000) (s0 s1 s2 s5 : Slot) :
    ((bSeq (sSet 4 (eD F__law_due (aCons (eV 3) aNil))) (bSeq (sIf (tB1 (e2 isNP (eVo 4) (eC .non))) (bSeq (sRet (eD F__law_refused (aCons (eV 3) aNil))) bNil) bNil) (bSeq (sRet (e2 eqP (eDN F_readX (aCons (eV 3) aNil)) (eVo 4))) bNil))) [s0, s1, s2, .val (.str (tx L)), .un, s5]).res = .ok (.bl true) := by
  obtain ⟨ws, w1, w2, w3, w4⟩ := words_of L
  have fd := f_due w1 w3 (by rw [w2]; exact ha) (by rw [w2]; omega) (by omega)
  have fr := f_readX w1 w3 (by rw [w2]; exact ha) (by rw [w2]; omega) (by omega)
  rw [w2] at fd fr
  obtain ⟨T, hT⟩ : ∃ T, T = PV.str (tx L) := ⟨_, rfl⟩
  rw [← hT] at fd fr ⊢
  cases hd : dueW ws with
  | none =>
    rw [hd] at fd fr
    have fd : F__law_due [T] = .ok .non := fd
    have rf := f_refused (show F_readX [T] = .exc "NoText" from fr)
    refine stp .non (by simp only [eD_eq, aCons_eq, aNil_eq, eVs, eV0, bind1, fd]) ?_
    simp only [List.set_cons_succ, List.set_cons_zero]
    have n1 : isNP .non .non = .ok (.bl true) := rfl
    refine ifT (by simp only [tB1_eq, e2_eq, eVos, eVo0, eC_eq, bind1, n1, asB_eq]) ?_
    simp only [bSeq_eq, sRet_eq, eD_eq, aCons_eq, aNil_eq, eVs, eV0, bind1, rf, st_ok, then_ret, res_ret]
  | some x =>
    obtain ⟨p, e, ds⟩ := x
    rw [hd] at fd fr
    have fd : F__law_due [T] = .ok (leftV p e ds) := fd
    have fr : F_readX [T] = .ok (leftV p e ds) := fr
    refine stp (leftV p e ds) (by simp only [eD_eq, aCons_eq, aNil_eq, eVs, eV0, bind1, fd]) ?_
    simp only [List.set_cons_succ, List.set_cons_zero]
    have n1 : isNP (leftV p e ds) .non = .ok (.bl false) := rfl
    refine skp (by simp only [tB1_eq, e2_eq, eVos, eVo0, eC_eq, bind1, n1, asB_eq]) ?_
    have rd : eDN F_readX (aCons (eV 3) aNil) [s0, s1, s2, .val T, .val (leftV p e ds), s5] = .ok (leftV p e ds) := by
      unfold eDN
      simp only [aCons_eq, aNil_eq, eVs, eV0, bind1, fr]
    simp only [bSeq_eq, sRet_eq, e2_eq, rd, eVos, eVo0, bind1, eq_left, st_ok, then_ret, res_ret]
theorem law_true : ∀ ns : List Int, ns.length ≤ 63 → (∀ z ∈ ns, z.natAbs.log2 < 1048577) → F_law [.frz (ns.map PV.int)] = .ok (.bl true) := by
  intro ns hlen _
  obtain ⟨S, hS⟩ : ∃ S, S = PV.frz (ns.map PV.int) := ⟨_, rfl⟩
  have c0 := f_cell ns 0 (by omega)
  have c1 := f_cell ns 1 (by omega)
  have c2 := f_cell ns 2 (by omega)
  have c3 := f_cell ns 3 (by omega)
  have c4 := f_cell ns 4 (by omega)
  obtain ⟨C, hC⟩ : ∃ C, C = nth ns 0 := ⟨_, rfl⟩
  rw [← hC] at c0
  have m25 := modP_pos (a := nth ns 1) (b := 25) (by omega)
  have ipr : ixP (.lst (primesL.map PV.int)) (.int (nth ns 1 % 25)) = .ok (.int (nth primesL (nth ns 1 % 25))) := ixP_ints (by omega) (by have : primesL.length = 25 := rfl; omega)
  obtain ⟨p, hp⟩ : ∃ p, p = nth primesL (nth ns 1 % 25) := ⟨_, rfl⟩
  have hpm : p ∈ primesL := by rw [hp]; exact nth_mem (by omega) (by have : primesL.length = 25 := rfl; omega)
  have hpb := primesL_le p hpm
  rw [← hp] at ipr
  obtain ⟨e, he, b1, b2⟩ := f_place (nth ns 2)
  have sl : slP (.frz (ns.map PV.int)) (some 5) (some 45) = .ok (.lst ((cutG ns (some 5) (some 45)).map PV.int)) := by rw [slP_f, cut_map]
  obtain ⟨cs, hcs⟩ : ∃ cs, cs = cutG ns (some 5) (some 45) := ⟨_, rfl⟩
  have cl : cs.length ≤ 40 := by
    rw [hcs]
    unfold cutG
    rw [List.length_take]
    have a : ∀ n : Nat, HT.sIx n n (some 45) - HT.sIx n 0 (some 5) ≤ 40 := fun n => by
      unfold HT.sIx
      dsimp only
      rw [if_neg (by omega), if_neg (by omega)]
      omega
    have := a ns.length
    omega
  rw [← hcs] at sl
  rw [← hS] at c0 c1 c2 c3 c4 sl
  have mods : ∀ (ρ : Rho) (h2 : ρ[2]? = some (.val (.int p))) (h5 : 5 < ρ.length), lcGo (gN 5) cYes (e2 modP (eVo 5) (eVo 2)) ρ (cs.map PV.int) = .ok ((cs.map (· % p)).map PV.int) := fun ρ h2 h5 => by
    rw [lcGo_map (fun q => match q with | .int n => .int (n % p) | q => q) _ fun q hq => ?_, List.map_map, List.map_map]
    · rfl
    · obtain ⟨n, _, rfl⟩ := List.mem_map.mp hq
      refine ⟨_, rfl, ?_⟩
      have g2 : (ρ.set 5 (.val (.int n)))[2]? = some (.val (.int p)) := by rw [List.getElem?_set_ne (by omega)]; exact h2
      have md := modP_pos (a := n) (b := p) (by omega)
      simp only [e2_eq, eVo_of (List.getElem?_set_self h5), eVo_of g2, bind1, md]
  have LC := eLc_ok (vs := [5]) (it := iS (eSl slP (eVo 0) (oSome (eC (.int 5))) (oSome (eC (.int 45))))) (tgt := gN 5) (test := cYes) (elt := e2 modP (eVo 5) (eVo 2)) (ρ := [.val S, .val (.int C), .val (.int p), .un, .un, .un]) (items := cs.map PV.int) rfl (by simp only [iS_eq, eSl_eq, oSome_eq, eVo0, eC_eq, bind1, asI_eq, sl, asS_l]) (by rw [List.length_map]; omega) (mods _ rfl (by simp [wipeR]))
  obtain ⟨L, ft, La, Ll⟩ := f_text (ds := cs.map (· % p)) hpm (e := e) (by omega) (fun d hd => by
    obtain ⟨n, _, rfl⟩ := List.mem_map.mp hd
    exact ⟨Int.emod_nonneg _ (by omega), Int.emod_lt_of_pos _ (by omega)⟩) (by rw [List.length_map]; omega)
  have fp := f_primes
  refine (runF_eq (n := 6) (u := D_law)).trans ?_
  rw [← hS]
  show (D_law [.val S, .un, .un, .un, .un, .un]).res = _
  unfold D_law
  refine stp (.int C) (by simp only [eD_eq, aCons_eq, aNil_eq, eV0, eC_eq, bind1, c0]) ?_
  simp only [List.set_cons_succ, List.set_cons_zero]
  refine stp (.int p) (by simp only [e2_eq, eD_eq, aCons_eq, aNil_eq, eV0, eC_eq, bind1, fp, c1, m25, ipr]) ?_
  simp only [List.set_cons_succ, List.set_cons_zero]
  refine stp (.str (tx L)) (by simp only [eD_eq, aCons_eq, aNil_eq, eVs, eV0, eC_eq, bind1, c2, he, LC, ft]) ?_
  simp only [List.set_cons_succ, List.set_cons_zero]
  have m12 := modP_pos (a := C) (b := 12) (by omega)
  have d12 := fdivP_sm (a := C) (b := 12) (by omega) (by omega)
  have m6 := modP_pos (a := C / 12) (b := 6) (by omega)
  have m3 := modP_pos (a := C) (b := 3) (by omega)
  by_cases h11 : C % 12 = 11
  · have h11' : (C % 12 == 11) = true := by rw [beq_iff_eq]; exact h11
    -- six things that are no texts
    have six : ∃ q, ixP (.lst [.non, .int 7, .lst [.str "2 0 :"], .tup [.str "2 0 :"], .bl true, .dct]) (.int (C / 12 % 6)) = .ok q ∧ isiP "str" q = .ok (.bl false) := by
      obtain ⟨j, hj⟩ : ∃ j, j = C / 12 % 6 := ⟨_, rfl⟩
      rw [← hj]
      rcases (by omega : j = 0 ∨ j = 1 ∨ j = 2 ∨ j = 3 ∨ j = 4 ∨ j = 5) with z | z | z | z | z | z <;> subst z <;> exact ⟨_, ixP_lst (by omega) rfl, rfl⟩
    obtain ⟨q, iq, nq⟩ := six
    have rf := f_refused (read_no nq)
    have l6 : ∀ a b c d e f : PV, lstP [a, b, c, d, e, f] = .ok (.lst [a, b, c, d, e, f]) := fun _ _ _ _ _ _ => rfl
    have l1 : lstP [.str "2 0 :"] = .ok (.lst [.str "2 0 :"]) := rfl
    have t1 : tupP [.str "2 0 :"] = .ok (.tup [.str "2 0 :"]) := rfl
    refine ifT (by simp only [tB1_eq, e2_eq, eVos, eVo0, eC_eq, bind1, m12, eqP_ii, h11', asB_eq]) ?_
    simp only [bSeq_eq, sRet_eq, e2_eq, eD_eq, aCons_eq, aNil_eq, eVos, eVo0, eC_eq, bind1, l1, t1, l6, d12, m6, iq, rf, st_ok, then_ret, res_ret]
  have h11' : (C % 12 == 11) = false := by rw [beq_eq_false_iff_ne]; exact h11
  refine skp (by simp only [tB1_eq, e2_eq, eVos, eVo0, eC_eq, bind1, m12, eqP_ii, h11', asB_eq]) ?_
  have d23 := fdivP_sm (a := nth ns 4) (b := 23) (by omega) (by omega)
  have d7 := fdivP_sm (a := nth ns 3) (b := 7) (by omega) (by omega)
  obtain ⟨L1, st1, L1a, L1l⟩ : ∃ L1, sIf (tB1 (e2 gtP (e2 modP (eVo 1) (eC (.int 3))) (eC (.int 0)))) (bSeq (sSet 3 (eD F__law_spoiled (aCons (eV 3) (aCons (eD F__law_cell_at (aCons (eV 0) (aCons (eC (.int 3)) aNil))) (aCons (eD F__law_cell_at (aCons (eV 0) (aCons (eC (.int 4)) aNil))) aNil))))) bNil) bNil [.val S, .val (.int C), .val (.int p), .val (.str (tx L)), .un, .un] = .next [.val S, .val (.int C), .val (.int p), .val (.str (tx L1)), .un, .un] ∧ Asc L1 ∧ L1.length ≤ 440 := by
    by_cases h : 0 < C % 3
    · obtain ⟨L1, f1, a1, l1⟩ := f_spoiled (nth ns 3) (nth ns 4) La (by omega)
      exact ⟨L1, by simp only [sIf_eq, tB1_eq, e2_eq, eVos, eVo0, eC_eq, bind1, m3, gtP_ii, decide_eq_true h, asB_eq, stB_ok, if_true, bSeq_eq, sSet_eq, eD_eq, aCons_eq, aNil_eq, eVs, eV0, c3, c4, f1, st_ok, then_next, bNil_eq, List.set_cons_succ, List.set_cons_zero], a1, by omega⟩
    · exact ⟨L, by simp only [sIf_eq, tB1_eq, e2_eq, eVos, eVo0, eC_eq, bind1, m3, gtP_ii, decide_eq_false h, asB_eq, stB_ok, if_neg Bool.false_ne_true, bNil_eq], La, by omega⟩
  refine stpM st1 ?_
  obtain ⟨L2, st2, L2a, L2l⟩ : ∃ L2, sIf (tB1 (e2 eqP (e2 modP (eVo 1) (eC (.int 3))) (eC (.int 2)))) (bSeq (sSet 3 (eD F__law_spoiled (aCons (eV 3) (aCons (e2 fdivP (eD F__law_cell_at (aCons (eV 0) (aCons (eC (.int 4)) aNil))) (eC (.int 23))) (aCons (e2 fdivP (eD F__law_cell_at (aCons (eV 0) (aCons (eC (.int 3)) aNil))) (eC (.int 7))) aNil))))) bNil) bNil [.val S, .val (.int C), .val (.int p), .val (.str (tx L1)), .un, .un] = .next [.val S, .val (.int C), .val (.int p), .val (.str (tx L2)), .un, .un] ∧ Asc L2 ∧ L2.length ≤ 480 := by
    by_cases h : C % 3 = 2
    · have h' : (C % 3 == 2) = true := by rw [beq_iff_eq]; exact h
      obtain ⟨L2, f1, a1, l1⟩ := f_spoiled (nth ns 4 / 23) (nth ns 3 / 7) L1a (by omega)
      exact ⟨L2, by simp only [sIf_eq, tB1_eq, e2_eq, eVos, eVo0, eC_eq, bind1, m3, eqP_ii, h', asB_eq, stB_ok, if_true, bSeq_eq, sSet_eq, eD_eq, aCons_eq, aNil_eq, eVs, eV0, c3, c4, d23, d7, f1, st_ok, then_next, bNil_eq, List.set_cons_succ, List.set_cons_zero], a1, by omega⟩
    · have h' : (C % 3 == 2) = false := by rw [beq_eq_false_iff_ne]; exact h
      exact ⟨L1, by simp only [sIf_eq, tB1_eq, e2_eq, eVos, eVo0, eC_eq, bind1, m3, eqP_ii, h', asB_eq, stB_ok, if_neg Bool.false_ne_true, bNil_eq], L1a, by omega⟩
  refine stpM st2 ?_
  exact law_end L2a (by omega) _ _ _ _
end K18
set_option Elab.async false
set_option linter.all false
set_option maxRecDepth 100000
set_option autoImplicit false
set_option maxHeartbeats 0
namespace K18
open PySem PySem.Spec L2 PL PM
open PyProof.Rows hiding St
def topS (i : Nat) : Stmt := PySem.Challenge.pw_leftnumbers_k18_texts_refused.main.body.getD i (.Pass ⟨0, 0, 0, 0⟩)
abbrev st_is_whole : Stmt := topS 18
theorem sc_is_whole : FnScope ["thing"] ["thing"] (defScope st_is_whole) := ⟨rfl, rfl, rfl, by decide +kernel, rfl, by decide +kernel, by decide +kernel⟩
abbrev st_is_prime : Stmt := topS 19
theorem sc_is_prime : FnScope ["thing", "part"] ["thing"] (defScope st_is_prime) := ⟨rfl, rfl, rfl, by decide +kernel, rfl, by decide +kernel, by decide +kernel⟩
abbrev st_are_figures : Stmt := topS 21
theorem sc_are_figures : FnScope ["p", "figures", "one"] ["p", "figures"] (defScope st_are_figures) := ⟨rfl, rfl, rfl, by decide +kernel, rfl, by decide +kernel, by decide +kernel⟩
abbrev st_left_number : Stmt := topS 22
theorem sc_left_number : FnScope ["p", "least", "figures", "noughts"] ["p", "least", "figures"] (defScope st_left_number) := ⟨rfl, rfl, rfl, by decide +kernel, rfl, by decide +kernel, by decide +kernel⟩
abbrev st_number_of : Stmt := topS 26
theorem sc_number_of : FnScope ["word", "figures", "sign"] ["word"] (defScope st_number_of) := ⟨rfl, rfl, rfl, by decide +kernel, rfl, by decide +kernel, by decide +kernel⟩
abbrev st_read_left : Stmt := topS 27
theorem sc_read_left : FnScope ["text", "words", "p", "least", "figures", "one", "word"] ["text"] (defScope st_read_left) := ⟨rfl, rfl, rfl, by decide +kernel, rfl, by decide +kernel, by decide +kernel⟩
abbrev st__law_cell_at : Stmt := topS 29
theorem sc__law_cell_at : FnScope ["_law_script", "_law_k"] ["_law_script", "_law_k"] (defScope st__law_cell_at) := ⟨rfl, rfl, rfl, by decide +kernel, rfl, by decide +kernel, by decide +kernel⟩
abbrev st__law_primes : Stmt := topS 30
theorem sc__law_primes : FnScope [] [] (defScope st__law_primes) := ⟨rfl, rfl, rfl, by decide +kernel, rfl, by decide +kernel, by decide +kernel⟩
abbrev st__law_place : Stmt := topS 31
theorem sc__law_place : FnScope ["_law_cell"] ["_law_cell"] (defScope st__law_place) := ⟨rfl, rfl, rfl, by decide +kernel, rfl, by decide +kernel, by decide +kernel⟩
abbrev st__law_text : Stmt := topS 32
theorem sc__law_text : FnScope ["_law_p", "_law_least", "_law_figures", "_law_text_here", "_law_one"] ["_law_p", "_law_least", "_law_figures"] (defScope st__law_text) := ⟨rfl, rfl, rfl, by decide +kernel, rfl, by decide +kernel, by decide +kernel⟩
abbrev st__law_spoiled : Stmt := topS 33
theorem sc__law_spoiled : FnScope ["_law_text_here", "_law_cell", "_law_more", "_law_signs", "_law_sign", "_law_at", "_law_words", "_law_some"] ["_law_text_here", "_law_cell", "_law_more"] (defScope st__law_spoiled) := ⟨rfl, rfl, rfl, by decide +kernel, rfl, by decide +kernel, by decide +kernel⟩
abbrev st__law_is_number : Stmt := topS 34
theorem sc__law_is_number : FnScope ["_law_word", "_law_figures", "_law_sign"] ["_law_word"] (defScope st__law_is_number) := ⟨rfl, rfl, rfl, by decide +kernel, rfl, by decide +kernel, by decide +kernel⟩
abbrev st__law_due : Stmt := topS 35
theorem sc__law_due : FnScope ["_law_text_here", "_law_words", "_law_p", "_law_figures", "_law_word", "_law_one"] ["_law_text_here"] (defScope st__law_due) := ⟨rfl, rfl, rfl, by decide +kernel, rfl, by decide +kernel, by decide +kernel⟩
abbrev st__law_others : Stmt := topS 36
theorem sc__law_others : FnScope ["_law_e", "_law_some"] ["_law_e"] (defScope st__law_others) := ⟨rfl, rfl, rfl, by decide +kernel, rfl, by decide +kernel, by decide +kernel⟩
abbrev st__law_refused : Stmt := topS 37
theorem sc__law_refused : FnScope ["_law_thing", "_law_found", "_law_e"] ["_law_thing"] (defScope st__law_refused) := ⟨rfl, rfl, rfl, by decide +kernel, rfl, by decide +kernel, by decide +kernel⟩
abbrev st_law : Stmt := topS 38
theorem sc_law : FnScope ["_law_script", "_law_cell", "_law_p", "_law_text_here", "_law_due_here", "_law_one"] ["_law_script"] (defScope st_law) := ⟨rfl, rfl, rfl, by decide +kernel, rfl, by decide +kernel, by decide +kernel⟩
def dsL : List Str := ["NoDepth", "NoFigures", "NoFraction", "NoPlace", "NoPolynomial", "NoPower", "NoPrime", "NoQuotient", "NoRoot", "NoSize", "NoText", "NotNear", "TooFew", "Unlike"]
structure Tx (K : PySem.W.Frag) (mg : Str → Option Value) : Prop where
  d_is_whole : DefE K mg "is_whole" st_is_whole ["thing"]
  d_is_prime : DefE K mg "is_prime" st_is_prime ["thing"]
  d_are_figures : DefE K mg "are_figures" st_are_figures ["p", "figures"]
  d_left_number : DefE K mg "left_number" st_left_number ["p", "least", "figures"]
  d_number_of : DefE K mg "number_of" st_number_of ["word"]
  d_read_left : DefE K mg "read_left" st_read_left ["text"]
  d__law_cell_at : DefE K mg "_law_cell_at" st__law_cell_at ["_law_script", "_law_k"]
  d__law_primes : DefE K mg "_law_primes" st__law_primes []
  d__law_place : DefE K mg "_law_place" st__law_place ["_law_cell"]
  d__law_text : DefE K mg "_law_text" st__law_text ["_law_p", "_law_least", "_law_figures"]
  d__law_spoiled : DefE K mg "_law_spoiled" st__law_spoiled ["_law_text_here", "_law_cell", "_law_more"]
  d__law_is_number : DefE K mg "_law_is_number" st__law_is_number ["_law_word"]
  d__law_due : DefE K mg "_law_due" st__law_due ["_law_text_here"]
  d__law_others : DefE K mg "_law_others" st__law_others ["_law_e"]
  d__law_refused : DefE K mg "_law_refused" st__law_refused ["_law_thing"]
  n_ValueError : mg "ValueError" = none
  n_all : mg "all" = none
  n_any : mg "any" = none
  n_bool : mg "bool" = none
  n_int : mg "int" = none
  n_isinstance : mg "isinstance" = none
  n_len : mg "len" = none
  n_list : mg "list" = none
  n_range : mg "range" = none
  n_reversed : mg "reversed" = none
  n_str : mg "str" = none
  n_tuple : mg "tuple" = none
  c_FIGURES : GlS mg "FIGURES" "0123456789"
  c_MOST_FIGURES : GlI mg "MOST_FIGURES" 31
  c_MOST_PRIME : GlI mg "MOST_PRIME" 97
  x_NoFigures : ∃ C, ExcT K mg "NoFigures" C
  x_NoPlace : ∃ C, ExcT K mg "NoPlace" C
  x_NoPrime : ∃ C, ExcT K mg "NoPrime" C
  x_NoText : ∃ C, ExcT K mg "NoText" C
  u_LeftError : ∃ C, mg "LeftError" = some (.ref C)
  u_NoDepth : ∃ C, mg "NoDepth" = some (.ref C)
  u_NoFigures : ∃ C, mg "NoFigures" = some (.ref C)
  u_NoFraction : ∃ C, mg "NoFraction" = some (.ref C)
  u_NoPlace : ∃ C, mg "NoPlace" = some (.ref C)
  u_NoPolynomial : ∃ C, mg "NoPolynomial" = some (.ref C)
  u_NoPower : ∃ C, mg "NoPower" = some (.ref C)
  u_NoPrime : ∃ C, mg "NoPrime" = some (.ref C)
  u_NoQuotient : ∃ C, mg "NoQuotient" = some (.ref C)
  u_NoRoot : ∃ C, mg "NoRoot" = some (.ref C)
  u_NoSize : ∃ C, mg "NoSize" = some (.ref C)
  u_NoText : ∃ C, mg "NoText" = some (.ref C)
  u_NotNear : ∃ C, mg "NotNear" = some (.ref C)
  u_TooFew : ∃ C, mg "TooFew" = some (.ref C)
  u_Unlike : ∃ C, mg "Unlike" = some (.ref C)
  v_LeftError : ∃ C, mg "LeftError" = some (.ref C)
  e_LeftError : KO K mg "LeftError" "LeftError"
  kq : ∀ c ∈ csL, ∀ d ∈ dsL, KQ K mg c d
  kv : ∀ c ∈ csL, ∀ C, mg c = some (.ref C) → PySem.W.kitOne K (.ref C) (.type "ValueError") = some (subX c "ValueError")
  ke : ∀ c ∈ csL, KE K mg c "LeftError"
section
variable {P : Program} {w : World} {K : PySem.W.Frag} {mg : Str → Option Value} {base : Heap}
theorem bd_is_whole (B : Tx K mg) {f : Addr} {cdv : Value} {A : Around} {outer : List PySem.Env} {s : Shared} {H : Hp} {E : XK} (hr : Room 0 (A.deeper (envOfC "is_whole" (defScope st_is_whole) s.heap.objs.size f cdv))) :
    BJ (cxOf (L2N.CX P w) P w K mg base ["thing"] "is_whole" (defScope st_is_whole) f cdv A outer s H E) (fun cls d _ H => E cls d H) false (defBody st_is_whole) D_is_whole :=
  (b_cons (s_ret (e_and (e_isi (n := "int") B.n_isinstance (by rfl) (e_varT (pv 0)) (pe_bltn (by rfl) B.n_int (by decide +kernel) rfl)) (e_one (e_not (e_isi (n := "bool") B.n_isinstance (by rfl) (e_varT (pv 0)) (pe_bltn (by rfl) B.n_bool (by decide +kernel) rfl))))))
b_nil)
theorem ok_is_whole (B : Tx K mg) : Okd P w K mg base "is_whole" ["thing"] 1 1 false F_is_whole := def_ok B.d_is_whole sc_is_whole rfl (fun z => nomatch z) fun f cdv A outer s H E hr => bd_is_whole B hr
theorem bd_is_prime (B : Tx K mg) {f : Addr} {cdv : Value} {A : Around} {outer : List PySem.Env} {s : Shared} {H : Hp} {E : XK} (hr : Room 1 (A.deeper (envOfC "is_prime" (defScope st_is_prime) s.heap.objs.size f cdv))) :
    BJ (cxOf (L2N.CX P w) P w K mg base ["thing", "part"] "is_prime" (defScope st_is_prime) f cdv A outer s H E) (fun cls d _ H => E cls d H) false (defBody st_is_prime) D_is_prime :=
  (b_cons (s_if (t_w (w_or (t_not (t_val (e_callD (ok_is_whole B) hr (by decide) tk_of (by rfl) (a_cons (e_var (pv 0)) a_nil) (ALen.cons ALen.nil)))) (w_or (t_lt (e_varT (pv 0)) (e_s_t e_int)) (w_or1 (t_gt (e_varT (pv 0)) (e_s_t (e_glI B.c_MOST_PRIME (by rfl))))))))
(b_cons (s_ret e_bl)
b_nil)
b_nil)
(b_cons (s_ret (e_all rfl B.n_all (by rfl) (a_cons (e_f_t (e_lc (own := [("part", 1)]) rfl sc_is_prime.nd (i_rng2 B.n_range (by rfl) (a_cons (e_s_t e_int) (a_cons (e_varT (pv 0)) a_nil))) (blkOk_by (own := [("part", 1)]) (N := ["thing", "part"]) (sc := defScope st_is_prime) (by decide +kernel)) (by decide) (fun _ _ _ _ _ => (g_name (pg_name (i := 1) sc_is_prime.nd rfl (Or.inl rfl)))) (fun _ _ _ _ _ => c_nil) (fun _ _ _ _ _ => (e_ne hr.units (e_s_t (e_mod (e_varT (pv 0)) (e_varT (pv 1)))) (e_s_t e_int))))) a_nil)))
b_nil))
theorem ok_is_prime (B : Tx K mg) : Okd P w K mg base "is_prime" ["thing"] 2 1 false F_is_prime := def_ok B.d_is_prime sc_is_prime rfl (fun z => nomatch z) fun f cdv A outer s H E hr => bd_is_prime B hr
theorem bd_are_figures (B : Tx K mg) {f : Addr} {cdv : Value} {A : Around} {outer : List PySem.Env} {s : Shared} {H : Hp} {E : XK} (hr : Room 1 (A.deeper (envOfC "are_figures" (defScope st_are_figures) s.heap.objs.size f cdv))) :
    BJ (cxOf (L2N.CX P w) P w K mg base ["p", "figures", "one"] "are_figures" (defScope st_are_figures) f cdv A outer s H E) (fun cls d _ H => E cls d H) false (defBody st_are_figures) D_are_figures :=
  (b_cons (s_if (t_not (t_val (e_isi2 (n := "list") (m := "tuple") B.n_isinstance (by rfl) (e_varT (pv 1)) (pe_bltn (by rfl) B.n_list (by decide +kernel) rfl) (pe_bltn (by rfl) B.n_tuple (by decide +kernel) rfl))))
(b_cons (s_ret e_bl)
b_nil)
b_nil)
(b_cons (s_ret (e_all rfl B.n_all (by rfl) (a_cons (e_f_t (e_lc (own := [("one", 2)]) rfl sc_are_figures.nd (i_seq (e_var (pv 1))) (blkOk_by (own := [("one", 2)]) (N := ["p", "figures", "one"]) (sc := defScope st_are_figures) (by decide +kernel)) (by decide) (fun _ _ _ _ _ => (g_name (pg_name (i := 2) sc_are_figures.nd rfl (Or.inl rfl)))) (fun _ _ _ _ _ => c_nil) (fun _ _ _ _ _ => (e_and (e_callD (ok_is_whole B) hr (by decide) takesN (by rfl) (a_cons (e_var (pv 2)) a_nil) (ALen.cons ALen.nil)) (e_one (e_leLt (e_s_t e_int) (e_varT (pv 2)) (e_varT (pv 0)))))))) a_nil)))
b_nil))
theorem ok_are_figures (B : Tx K mg) : Okd P w K mg base "are_figures" ["p", "figures"] 2 2 false F_are_figures := def_ok B.d_are_figures sc_are_figures rfl (fun z => nomatch z) fun f cdv A outer s H E hr => bd_are_figures B hr
theorem bd_left_number (B : Tx K mg) {f : Addr} {cdv : Value} {A : Around} {outer : List PySem.Env} {s : Shared} {H : Hp} {E : XK} (hr : Room 2 (A.deeper (envOfC "left_number" (defScope st_left_number) s.heap.objs.size f cdv))) :
    BJ (cxOf (L2N.CX P w) P w K mg base ["p", "least", "figures", "noughts"] "left_number" (defScope st_left_number) f cdv A outer s H E) (fun cls d _ H => E cls d H) false (defBody st_left_number) D_left_number :=
  (b_cons (s_if (t_not (t_val (e_callD (ok_is_prime B) hr (by decide) tk_of (by rfl) (a_cons (e_var (pv 0)) a_nil) (ALen.cons ALen.nil))))
(b_cons (s_raise B.x_NoPrime.choose_spec rfl tk_of (by rfl))
b_nil)
b_nil)
(b_cons (s_if (t_not (t_val (e_callD (ok_is_whole B) hr (by decide) tk_of (by rfl) (a_cons (e_var (pv 1)) a_nil) (ALen.cons ALen.nil))))
(b_cons (s_raise B.x_NoPlace.choose_spec rfl tk_of (by rfl))
b_nil)
b_nil)
(b_cons (s_if (t_not (t_val (e_callD (ok_are_figures B) hr (by decide) tk_of (by rfl) (a_cons (e_var (pv 0)) (a_cons (e_var (pv 2)) a_nil)) (ALen.cons (ALen.cons ALen.nil)))))
(b_cons (s_raise B.x_NoFigures.choose_spec rfl tk_of (by rfl))
b_nil)
b_nil)
(b_cons (s_set (i := 3) sc_left_number.nd rfl (Or.inl rfl) e_int)
(b_cons (s_while hp_of (t_w (w_and (t_lt (e_varT (pv 3)) (e_s_t (e_len B.n_len (by rfl) (a_cons (e_varT (pv 2)) a_nil)))) (w_and1 (t_eq hr.units (e_s_t (e_item (e_varT (pv 2)) (e_varT (pv 3)) (fun _ _ => rfl))) (e_s_t e_int)))))
(b_cons (s_augAdd (i := 3) sc_left_number.nd rfl (Or.inl rfl) (e_s_t e_int))
b_nil))
(b_cons (s_ret (e_tup (a_cons (e_var (pv 0)) (a_cons (e_add (e_varT (pv 1)) (e_varT (pv 3))) (a_cons (e_tuple B.n_tuple (by rfl) (a_cons (e_s_t (e_slice (e_varT (pv 2)) (o_some (e_var (pv 3))) o_none)) a_nil)) a_nil)))))
b_nil))))))
theorem ok_left_number (B : Tx K mg) : Okd P w K mg base "left_number" ["p", "least", "figures"] 3 3 false F_left_number := def_ok B.d_left_number sc_left_number rfl (fun z => nomatch z) fun f cdv A outer s H E hr => bd_left_number B hr
theorem bd_number_of (B : Tx K mg) {f : Addr} {cdv : Value} {A : Around} {outer : List PySem.Env} {s : Shared} {H : Hp} {E : XK} (hr : Room 0 (A.deeper (envOfC "number_of" (defScope st_number_of) s.heap.objs.size f cdv))) :
    BJ (cxOf (L2N.CX P w) P w K mg base ["word", "figures", "sign"] "number_of" (defScope st_number_of) f cdv A outer s H E) (fun cls d _ H => E cls d H) false (defBody st_number_of) D_number_of :=
  (b_cons (s_set (i := 1) sc_number_of.nd rfl (Or.inl rfl) (e_var (pv 0)))
(b_cons (s_if (t_val (e_stw (e_varT (pv 0)) (e_s_t e_str)))
(b_cons (s_set (i := 1) sc_number_of.nd rfl (Or.inl rfl) (e_slice (e_varT (pv 0)) (o_some e_int) o_none))
b_nil)
b_nil)
(b_cons (s_if (t_w (w_or (t_eq hr.units (e_varT (pv 1)) (e_s_t e_str)) (w_or (t_gt (e_s_t (e_len B.n_len (by rfl) (a_cons (e_varT (pv 1)) a_nil))) (e_s_t (e_glI B.c_MOST_FIGURES (by rfl)))) (w_or1 (t_val (e_any rfl B.n_any (by rfl) (a_cons (e_f_t (e_lc (own := [("sign", 2)]) rfl sc_number_of.nd (i_strP (e_varT (pv 1))) (blkOk_by (own := [("sign", 2)]) (N := ["word", "figures", "sign"]) (sc := defScope st_number_of) (by decide +kernel)) (by decide) (fun _ _ _ _ _ => (g_name (pg_name (i := 2) sc_number_of.nd rfl (Or.inl rfl)))) (fun _ _ _ _ _ => c_nil) (fun _ _ _ _ _ => (e_notInS (e_varT (pv 2)) (e_s_t (e_glS B.c_FIGURES (by rfl))))))) a_nil)))))))
(b_cons (s_raise B.x_NoText.choose_spec rfl tk_of (by rfl))
b_nil)
b_nil)
(b_cons (s_if (t_w (w_and (t_eq hr.units (e_s_t (e_item (e_varT (pv 1)) (e_s_t e_int) (fun _ _ => rfl))) (e_s_t e_str)) (w_and1 (t_ne hr.units (e_varT (pv 0)) (e_s_t e_str)))))
(b_cons (s_raise B.x_NoText.choose_spec rfl tk_of (by rfl))
b_nil)
b_nil)
(b_cons (s_ret (e_intS B.n_int (by rfl) (a_cons (e_varT (pv 0)) a_nil)))
b_nil)))))
theorem ok_number_of (B : Tx K mg) : Okd P w K mg base "number_of" ["word"] 1 1 false F_number_of := def_ok B.d_number_of sc_number_of rfl (fun z => nomatch z) fun f cdv A outer s H E hr => bd_number_of B hr
theorem bd_read_left (B : Tx K mg) {f : Addr} {cdv : Value} {A : Around} {outer : List PySem.Env} {s : Shared} {H : Hp} {E : XK} (hr : Room 3 (A.deeper (envOfC "read_left" (defScope st_read_left) s.heap.objs.size f cdv))) :
    BJ (cxOf (L2X.CX P w) P w K mg base ["text", "words", "p", "least", "figures", "one", "word"] "read_left" (defScope st_read_left) f cdv A outer s H E) (fun cls d _ H => E cls d H) false (defBody st_read_left) D_readX :=
  (b_cons (s_if (t_not (t_val (e_isi (n := "str") B.n_isinstance (by rfl) (e_varT (pv 0)) (pe_bltn (by rfl) B.n_str (by decide +kernel) rfl))))
(b_cons (s_raise B.x_NoText.choose_spec rfl tk_ofX.n (by rfl))
b_nil)
b_nil)
(b_cons (s_set (i := 1) sc_read_left.nd rfl (Or.inl rfl) (e_f_s (e_split (e_varT (pv 0)) (e_s_t e_str))))
(b_cons (s_if (t_w (w_or (t_lt (e_s_t (e_len B.n_len (by rfl) (a_cons (e_varT (pv 1)) a_nil))) (e_s_t e_int)) (w_or1 (t_ne hr.units (e_s_t (e_item (e_varT (pv 1)) (e_s_t e_int) (fun _ _ => rfl))) (e_s_t e_str)))))
(b_cons (s_raise B.x_NoText.choose_spec rfl tk_ofX.n (by rfl))
b_nil)
b_nil)
(b_cons (s_set (i := 2) sc_read_left.nd rfl (Or.inl rfl) (e_callD (ok_number_of B) hr (by decide) tk_ofX.n (by rfl) (a_cons (e_item (e_varT (pv 1)) (e_s_t e_int) (fun _ _ => rfl)) a_nil) (ALen.cons ALen.nil)))
(b_cons (s_set (i := 3) sc_read_left.nd rfl (Or.inl rfl) (e_callD (ok_number_of B) hr (by decide) tk_ofX.n (by rfl) (a_cons (e_item (e_varT (pv 1)) (e_s_t e_int) (fun _ _ => rfl)) a_nil) (ALen.cons ALen.nil)))
(b_cons (s_setLcE (i := 4) (own := [("word", 6)]) rfl rfl tk_ofX.n (by decide) rfl sc_read_left.nd rfl rfl (sw_true rfl rfl rfl (by decide +kernel)) (i_rev B.n_reversed (by rfl) (e_slice (e_varT (pv 1)) (o_some e_int) o_none)) (blkOk_by (own := [("word", 6)]) (N := ["text", "words", "p", "least", "figures", "one", "word"]) (sc := defScope st_read_left) (by decide +kernel)) (fun _ _ _ _ _ => (g_name (pg_name (i := 6) sc_read_left.nd rfl (Or.inl rfl)))) (fun _ _ _ _ _ _ _ hx => (e_callP (ok_number_of B) hr (by decide) hx (by rfl) (a_cons (e_var (pv 6)) a_nil) (ALen.cons ALen.nil))))
(b_cons (s_tryR rfl rfl ⟨by rfl, by decide, .inl B.v_LeftError.choose_spec⟩ pa_ofX tk_ofX (fun c hc C h => B.ke c hc C _ h B.v_LeftError.choose_spec) (fun W pn xe tk hp => (b_cons (s_set (i := 5) sc_read_left.nd rfl (Or.inl rfl) (e_callD (ok_left_number B) hr (by decide) tk (by rfl) (a_cons (e_var (pv 2)) (a_cons (e_var (pv 3)) (a_cons (e_var (pv 4)) a_nil))) (ALen.cons (ALen.cons (ALen.cons ALen.nil)))))
b_nil)) (fun p pn hot tk => (b_cons (s_raiseX B.x_NoText.choose_spec hot List.mem_cons_self tk (by rfl))
b_nil)) (b_cons (s_if (t_ne hr.units (e_s_t (e_item (e_varT (pv 5)) (e_s_t e_int) (fun _ _ => rfl))) (e_varT (pv 3)))
(b_cons (s_raise B.x_NoText.choose_spec rfl tk_ofX.n (by rfl))
b_nil)
b_nil)
(b_cons (s_ret (e_var (pv 5)))
b_nil)))
b_nil)))))))
theorem ok_read_left (B : Tx K mg) : OkdX P w K mg base "read_left" ["text"] 4 1 F_readX := def_okE B.d_read_left sc_read_left rfl fun f cdv A outer s H E hr => bd_read_left B hr
theorem bd__law_cell_at (B : Tx K mg) {f : Addr} {cdv : Value} {A : Around} {outer : List PySem.Env} {s : Shared} {H : Hp} {E : XK} (hr : Room 0 (A.deeper (envOfC "_law_cell_at" (defScope st__law_cell_at) s.heap.objs.size f cdv))) :
    BJ (cxOf (L2N.CX P w) P w K mg base ["_law_script", "_law_k"] "_law_cell_at" (defScope st__law_cell_at) f cdv A outer s H E) (fun cls d _ H => E cls d H) false (defBody st__law_cell_at) D__law_cell_at :=
  (b_cons (s_if (t_lt (e_varT (pv 1)) (e_s_t (e_len B.n_len (by rfl) (a_cons (e_varT (pv 0)) a_nil))))
(b_cons (s_ret (e_item (e_varT (pv 0)) (e_varT (pv 1)) (fun _ _ => rfl)))
b_nil)
b_nil)
(b_cons (s_ret e_int)
b_nil))
theorem ok__law_cell_at (B : Tx K mg) : Okd P w K mg base "_law_cell_at" ["_law_script", "_law_k"] 1 2 false F__law_cell_at := def_ok B.d__law_cell_at sc__law_cell_at rfl (fun z => nomatch z) fun f cdv A outer s H E hr => bd__law_cell_at B hr
theorem noexc__law_primes (c : Str) : F__law_primes [] ≠ .exc c := by
  have e : F__law_primes [] = R.ok _ := rfl
  rw [e]
  exact fun z => nomatch z
theorem bd__law_primes (B : Tx K mg) {f : Addr} {cdv : Value} {A : Around} {outer : List PySem.Env} {s : Shared} {H : Hp} {E : XK} (hr : Room 0 (A.deeper (envOfC "_law_primes" (defScope st__law_primes) s.heap.objs.size f cdv))) :
    BJ (cxOf (L2N.CX P w) P w K mg base [] "_law_primes" (defScope st__law_primes) f cdv A outer s H E) (fun cls d _ H => E cls d H) true (defBody st__law_primes) D__law_primes :=
  (b_cons (s_retF (e_lst (a_cons e_int (a_cons e_int (a_cons e_int (a_cons e_int (a_cons e_int (a_cons e_int (a_cons e_int (a_cons e_int (a_cons e_int (a_cons e_int (a_cons e_int (a_cons e_int (a_cons e_int (a_cons e_int (a_cons e_int (a_cons e_int (a_cons e_int (a_cons e_int (a_cons e_int (a_cons e_int (a_cons e_int (a_cons e_int (a_cons e_int (a_cons e_int (a_cons e_int a_nil)))))))))))))))))))))))))))
b_nil)
theorem ok__law_primes (B : Tx K mg) : Okd P w K mg base "_law_primes" [] 1 0 true F__law_primes := def_ok B.d__law_primes sc__law_primes rfl (fun _ => (nn_seqL (nn_ret _))) fun f cdv A outer s H E hr => bd__law_primes B hr
theorem bd__law_place (B : Tx K mg) {f : Addr} {cdv : Value} {A : Around} {outer : List PySem.Env} {s : Shared} {H : Hp} {E : XK} (hr : Room 0 (A.deeper (envOfC "_law_place" (defScope st__law_place) s.heap.objs.size f cdv))) :
    BJ (cxOf (L2N.CX P w) P w K mg base ["_law_cell"] "_law_place" (defScope st__law_place) f cdv A outer s H E) (fun cls d _ H => E cls d H) false (defBody st__law_place) D__law_place :=
  (b_cons (s_if (t_eq hr.units (e_s_t (e_mod (e_varT (pv 0)) (e_s_t e_int))) (e_s_t e_int))
(b_cons (s_ret (e_sub (e_s_t (e_mod (e_s_t (e_fdiv (e_varT (pv 0)) (e_s_t e_int))) (e_s_t (e_add (e_s_t (e_mul (e_s_t e_int) (e_s_t (e_pow (e_s_t e_int) (e_s_t e_int))))) (e_s_t e_int))))) (e_s_t (e_pow (e_s_t e_int) (e_s_t e_int)))))
b_nil)
b_nil)
(b_cons (s_ret (e_sub (e_s_t (e_mod (e_s_t (e_fdiv (e_varT (pv 0)) (e_s_t e_int))) (e_s_t e_int))) (e_s_t e_int)))
b_nil))
theorem ok__law_place (B : Tx K mg) : Okd P w K mg base "_law_place" ["_law_cell"] 1 1 false F__law_place := def_ok B.d__law_place sc__law_place rfl (fun z => nomatch z) fun f cdv A outer s H E hr => bd__law_place B hr
theorem bd__law_text (B : Tx K mg) {f : Addr} {cdv : Value} {A : Around} {outer : List PySem.Env} {s : Shared} {H : Hp} {E : XK} (hr : Room 0 (A.deeper (envOfC "_law_text" (defScope st__law_text) s.heap.objs.size f cdv))) :
    BJ (cxOf (L2N.CX P w) P w K mg base ["_law_p", "_law_least", "_law_figures", "_law_text_here", "_law_one"] "_law_text" (defScope st__law_text) f cdv A outer s H E) (fun cls d _ H => E cls d H) false (defBody st__law_text) D__law_text :=
  (b_cons (s_set (i := 3) sc__law_text.nd rfl (Or.inl rfl) (e_add (e_s_t (e_add (e_s_t (e_add (e_s_t (e_strI B.n_str (by rfl) (a_cons (e_varT (pv 0)) a_nil))) (e_s_t e_str))) (e_s_t (e_strI B.n_str (by rfl) (a_cons (e_varT (pv 1)) a_nil))))) (e_s_t e_str)))
(b_cons (s_for hp_of rfl (i_rev B.n_reversed (by rfl) (e_var (pv 2))) (g_name (pg_name (i := 4) sc__law_text.nd rfl (Or.inl rfl)))
(b_cons (s_set (i := 3) sc__law_text.nd rfl (Or.inl rfl) (e_add (e_s_t (e_add (e_varT (pv 3)) (e_s_t e_str))) (e_s_t (e_strI B.n_str (by rfl) (a_cons (e_varT (pv 4)) a_nil)))))
b_nil))
(b_cons (s_ret (e_var (pv 3)))
b_nil)))
theorem ok__law_text (B : Tx K mg) : Okd P w K mg base "_law_text" ["_law_p", "_law_least", "_law_figures"] 1 3 false F__law_text := def_ok B.d__law_text sc__law_text rfl (fun z => nomatch z) fun f cdv A outer s H E hr => bd__law_text B hr
theorem bd__law_spoiled (B : Tx K mg) {f : Addr} {cdv : Value} {A : Around} {outer : List PySem.Env} {s : Shared} {H : Hp} {E : XK} (hr : Room 0 (A.deeper (envOfC "_law_spoiled" (defScope st__law_spoiled) s.heap.objs.size f cdv))) :
    BJ (cxOf (L2N.CX P w) P w K mg base ["_law_text_here", "_law_cell", "_law_more", "_law_signs", "_law_sign", "_law_at", "_law_words", "_law_some"] "_law_spoiled" (defScope st__law_spoiled) f cdv A outer s H E) (fun cls d _ H => E cls d H) false (defBody st__law_spoiled) D__law_spoiled :=
  (b_cons (s_set (i := 3) sc__law_spoiled.nd rfl (Or.inl rfl) (e_f_s (e_lst (a_cons e_str (a_cons e_str (a_cons e_str (a_cons e_str (a_cons e_str (a_cons e_str (a_cons e_str (a_cons e_str (a_cons e_str (a_cons e_str (a_cons e_str (a_cons e_str (a_cons e_str (a_cons e_str (a_cons e_str (a_cons e_str (a_cons e_str (a_cons e_str (a_cons e_str (a_cons e_str a_nil)))))))))))))))))))))))
(b_cons (s_set (i := 3) sc__law_spoiled.nd rfl (Or.inl rfl) (e_add (e_varT (pv 3)) (e_f_t (e_lst (a_cons e_str (a_cons e_str (a_cons e_str a_nil)))))))
(b_cons (s_set (i := 4) sc__law_spoiled.nd rfl (Or.inl rfl) (e_item (e_varT (pv 3)) (e_s_t (e_mod (e_varT (pv 2)) (e_s_t e_int))) (fun _ _ => rfl)))
(b_cons (s_set (i := 5) sc__law_spoiled.nd rfl (Or.inl rfl) (e_mod (e_s_t (e_fdiv (e_varT (pv 1)) (e_s_t e_int))) (e_s_t (e_add (e_s_t (e_len B.n_len (by rfl) (a_cons (e_varT (pv 0)) a_nil))) (e_s_t e_int)))))
(b_cons (s_if (t_eq hr.units (e_s_t (e_mod (e_varT (pv 1)) (e_s_t e_int))) (e_s_t e_int))
(b_cons (s_ret (e_add (e_s_t (e_add (e_s_t (e_slice (e_varT (pv 0)) o_none (o_some (e_var (pv 5))))) (e_varT (pv 4)))) (e_s_t (e_slice (e_varT (pv 0)) (o_some (e_var (pv 5))) o_none))))
b_nil)
b_nil)
(b_cons (s_if (t_eq hr.units (e_s_t (e_mod (e_varT (pv 1)) (e_s_t e_int))) (e_s_t e_int))
(b_cons (s_ret (e_add (e_s_t (e_slice (e_varT (pv 0)) o_none (o_some (e_var (pv 5))))) (e_s_t (e_slice (e_varT (pv 0)) (o_some (e_add (e_varT (pv 5)) (e_s_t e_int))) o_none))))
b_nil)
b_nil)
(b_cons (s_if (t_eq hr.units (e_s_t (e_mod (e_varT (pv 1)) (e_s_t e_int))) (e_s_t e_int))
(b_cons (s_ret (e_add (e_s_t (e_add (e_s_t (e_slice (e_varT (pv 0)) o_none (o_some (e_var (pv 5))))) (e_varT (pv 4)))) (e_s_t (e_slice (e_varT (pv 0)) (o_some (e_add (e_varT (pv 5)) (e_s_t e_int))) o_none))))
b_nil)
b_nil)
(b_cons (s_setO (i := 6) sc__law_spoiled.nd rfl (Or.inl rfl) (e_split (e_varT (pv 0)) (e_s_t e_str)))
(b_cons (s_set (i := 7) sc__law_spoiled.nd rfl (Or.inl rfl) (e_f_s (e_lst (a_cons e_str (a_cons e_str (a_cons e_str (a_cons e_str (a_cons e_str (a_cons e_str (a_cons e_str (a_cons e_str (a_cons e_str (a_cons e_str (a_cons e_str (a_cons e_str (a_cons (e_add (e_s_t e_str) (e_s_t (e_repS (e_s_t e_str) (e_s_t e_int)))) (a_cons (e_add (e_s_t e_str) (e_s_t (e_repS (e_s_t e_str) (e_s_t e_int)))) a_nil)))))))))))))))))
(b_cons (s_setI (i := 6) (pv 6) (e_item (e_varT (pv 7)) (e_s_t (e_mod (e_varT (pv 2)) (e_s_t e_int))) (fun _ _ => rfl)) (e_mod (e_varT (pv 5)) (e_s_t (e_len B.n_len (by rfl) (a_cons (e_varT (pv 6)) a_nil)))))
(b_cons (s_ret (e_join (e_s_t e_str) (e_varT (pv 6))))
b_nil)))))))))))
theorem ok__law_spoiled (B : Tx K mg) : Okd P w K mg base "_law_spoiled" ["_law_text_here", "_law_cell", "_law_more"] 1 3 false F__law_spoiled := def_ok B.d__law_spoiled sc__law_spoiled rfl (fun z => nomatch z) fun f cdv A outer s H E hr => bd__law_spoiled B hr
theorem bd__law_is_number (B : Tx K mg) {f : Addr} {cdv : Value} {A : Around} {outer : List PySem.Env} {s : Shared} {H : Hp} {E : XK} (hr : Room 0 (A.deeper (envOfC "_law_is_number" (defScope st__law_is_number) s.heap.objs.size f cdv))) :
    BJ (cxOf (L2N.CX P w) P w K mg base ["_law_word", "_law_figures", "_law_sign"] "_law_is_number" (defScope st__law_is_number) f cdv A outer s H E) (fun cls d _ H => E cls d H) false (defBody st__law_is_number) D__law_is_number :=
  (b_cons (s_set (i := 1) sc__law_is_number.nd rfl (Or.inl rfl) (e_var (pv 0)))
(b_cons (s_if (t_eq hr.units (e_s_t (e_slice (e_varT (pv 0)) o_none (o_some e_int))) (e_s_t e_str))
(b_cons (s_set (i := 1) sc__law_is_number.nd rfl (Or.inl rfl) (e_slice (e_varT (pv 0)) (o_some e_int) o_none))
b_nil)
b_nil)
(b_cons (s_if (t_w (w_or (t_eq hr.units (e_varT (pv 1)) (e_s_t e_str)) (w_or (t_gt (e_s_t (e_len B.n_len (by rfl) (a_cons (e_varT (pv 1)) a_nil))) (e_s_t e_int)) (w_or1 (t_not (t_val (e_all rfl B.n_all (by rfl) (a_cons (e_f_t (e_lc (own := [("_law_sign", 2)]) rfl sc__law_is_number.nd (i_strP (e_varT (pv 1))) (blkOk_by (own := [("_law_sign", 2)]) (N := ["_law_word", "_law_figures", "_law_sign"]) (sc := defScope st__law_is_number) (by decide +kernel)) (by decide) (fun _ _ _ _ _ => (g_name (pg_name (i := 2) sc__law_is_number.nd rfl (Or.inl rfl)))) (fun _ _ _ _ _ => c_nil) (fun _ _ _ _ _ => (e_inS (e_varT (pv 2)) (e_s_t e_str))))) a_nil))))))))
(b_cons (s_ret e_bl)
b_nil)
b_nil)
(b_cons (s_ret (e_or (e_ne hr.units (e_s_t (e_item (e_varT (pv 1)) (e_s_t e_int) (fun _ _ => rfl))) (e_s_t e_str)) (e_one (e_eq hr.units (e_varT (pv 0)) (e_s_t e_str)))))
b_nil))))
theorem ok__law_is_number (B : Tx K mg) : Okd P w K mg base "_law_is_number" ["_law_word"] 1 1 false F__law_is_number := def_ok B.d__law_is_number sc__law_is_number rfl (fun z => nomatch z) fun f cdv A outer s H E hr => bd__law_is_number B hr
theorem bd__law_due (B : Tx K mg) {f : Addr} {cdv : Value} {A : Around} {outer : List PySem.Env} {s : Shared} {H : Hp} {E : XK} (hr : Room 1 (A.deeper (envOfC "_law_due" (defScope st__law_due) s.heap.objs.size f cdv))) :
    BJ (cxOf (L2N.CX P w) P w K mg base ["_law_text_here", "_law_words", "_law_p", "_law_figures", "_law_word", "_law_one"] "_law_due" (defScope st__law_due) f cdv A outer s H E) (fun cls d _ H => E cls d H) false (defBody st__law_due) D__law_due :=
  (b_cons (s_set (i := 1) sc__law_due.nd rfl (Or.inl rfl) (e_f_s (e_split (e_varT (pv 0)) (e_s_t e_str))))
(b_cons (s_if (t_w (w_or (t_lt (e_s_t (e_len B.n_len (by rfl) (a_cons (e_varT (pv 1)) a_nil))) (e_s_t e_int)) (w_or (t_ne hr.units (e_s_t (e_item (e_varT (pv 1)) (e_s_t e_int) (fun _ _ => rfl))) (e_s_t e_str)) (w_or1 (t_not (t_val (e_all rfl B.n_all (by rfl) (a_cons (e_f_t (e_lc (own := [("_law_word", 4)]) rfl sc__law_due.nd (i_seq (e_add (e_s_t (e_slice (e_varT (pv 1)) o_none (o_some e_int))) (e_s_t (e_slice (e_varT (pv 1)) (o_some e_int) o_none)))) (blkOk_by (own := [("_law_word", 4)]) (N := ["_law_text_here", "_law_words", "_law_p", "_law_figures", "_law_word", "_law_one"]) (sc := defScope st__law_due) (by decide +kernel)) (by decide) (fun _ _ _ _ _ => (g_name (pg_name (i := 4) sc__law_due.nd rfl (Or.inl rfl)))) (fun _ _ _ _ _ => c_nil) (fun _ _ _ _ _ => (e_callD (ok__law_is_number B) hr (by decide) takesN (by rfl) (a_cons (e_var (pv 4)) a_nil) (ALen.cons ALen.nil))))) a_nil))))))))
(b_cons (s_ret e_non)
b_nil)
b_nil)
(b_cons (s_set (i := 2) sc__law_due.nd rfl (Or.inr rfl) (e_intS B.n_int (by rfl) (a_cons (e_s_t (e_item (e_varT (pv 1)) (e_s_t e_int) (fun _ _ => rfl))) a_nil)))
(b_cons (lcs (i := 3) (own := [("_law_word", 4)]) (q_lc (by decide)) rfl sc__law_due.nd rfl rfl (sw_true rfl rfl rfl (by decide +kernel)) (i_rev B.n_reversed (by rfl) (e_slice (e_varT (pv 1)) (o_some e_int) o_none)) (blkOk_by (own := [("_law_word", 4)]) (N := ["_law_text_here", "_law_words", "_law_p", "_law_figures", "_law_word", "_law_one"]) (sc := defScope st__law_due) (by decide +kernel)) (fun _ _ _ _ _ => (g_name (pg_name (i := 4) sc__law_due.nd rfl (Or.inl rfl)))) (fun _ _ _ _ _ => c_nil) (fun _ _ _ _ _ => (e_intS B.n_int (by rfl) (a_cons (e_varT (pv 4)) a_nil))))
(b_cons (s_if (t_w (w_or (t_notIn (roomIn hr) (e_varT (pv 2)) (e_f_t (e_call0 (ok__law_primes B) hr (by decide) (noexc__law_primes) (by rfl)))) (w_or1 (t_not (t_val (e_all rfl B.n_all (by rfl) (a_cons (e_f_t (e_lc (own := [("_law_one", 5)]) rfl sc__law_due.nd (i_seq (e_var (pv 3))) (blkOk_by (own := [("_law_one", 5)]) (N := ["_law_text_here", "_law_words", "_law_p", "_law_figures", "_law_word", "_law_one"]) (sc := defScope st__law_due) (by decide +kernel)) (by decide) (fun _ _ _ _ _ => (g_name (pg_name (i := 5) sc__law_due.nd rfl (Or.inl rfl)))) (fun _ _ _ _ _ => c_nil) (fun _ _ _ _ _ => (e_leLt (e_s_t e_int) (e_varT (pv 5)) (e_varT (pv 2)))))) a_nil)))))))
(b_cons (s_ret e_non)
b_nil)
b_nil)
(b_cons (s_if (t_w (w_and (t_ne hr.units (e_varT (pv 3)) (e_f_t (e_lst a_nil))) (w_and1 (t_eq hr.units (e_s_t (e_item (e_varT (pv 3)) (e_s_t e_int) (fun _ _ => rfl))) (e_s_t e_int)))))
(b_cons (s_ret e_non)
b_nil)
b_nil)
(b_cons (s_ret (e_tup (a_cons (e_var (pv 2)) (a_cons (e_intS B.n_int (by rfl) (a_cons (e_s_t (e_item (e_varT (pv 1)) (e_s_t e_int) (fun _ _ => rfl))) a_nil)) (a_cons (e_tuple B.n_tuple (by rfl) (a_cons (e_varT (pv 3)) a_nil)) a_nil)))))
b_nil)))))))
theorem ok__law_due (B : Tx K mg) : Okd P w K mg base "_law_due" ["_law_text_here"] 2 1 false F__law_due := def_ok B.d__law_due sc__law_due rfl (fun z => nomatch z) fun f cdv A outer s H E hr => bd__law_due B hr
theorem bd__law_others (B : Tx K mg) {c : Str} (hc : c ∈ csL) {f : Addr} {cdv : Value} {A : Around} {outer : List PySem.Env} {s : Shared} {H : Hp} {E : XK} {p q : Addr × Obj} {C : Addr} (hP : Pn K mg p c C) (hot : L2X.Hot2 (A.deeper (envOfC "_law_others" (defScope st__law_others) s.heap.objs.size f cdv)) p q) (hr : L2H.RoomH 0 (A.deeper (envOfC "_law_others" (defScope st__law_others) s.heap.objs.size f cdv))) :
    BJ (cxH2 (L2N.CX P w) P w K mg base ["_law_e", "_law_some"] "_law_others" (defScope st__law_others) f cdv A outer s H E p q) (fun _ _ _ _ => False) false (defBody st__law_others) (D__law_others c p.1) :=
  (b_cons (s_set (i := 1) sc__law_others.nd rfl (Or.inl rfl) (e_f_s (e_lst (a_cons (e_isX ⟨p.2, C, List.mem_cons_self, hP⟩ B.n_isinstance (by rfl) (pv 0) (ClsN.own (by rfl) B.u_NoPrime.choose_spec (by decide)) (fun C h => B.kq _ hc "NoPrime" (by decide) C _ h B.u_NoPrime.choose_spec)) (a_cons (e_isX ⟨p.2, C, List.mem_cons_self, hP⟩ B.n_isinstance (by rfl) (pv 0) (ClsN.own (by rfl) B.u_NoPlace.choose_spec (by decide)) (fun C h => B.kq _ hc "NoPlace" (by decide) C _ h B.u_NoPlace.choose_spec)) (a_cons (e_isX ⟨p.2, C, List.mem_cons_self, hP⟩ B.n_isinstance (by rfl) (pv 0) (ClsN.own (by rfl) B.u_NoFigures.choose_spec (by decide)) (fun C h => B.kq _ hc "NoFigures" (by decide) C _ h B.u_NoFigures.choose_spec)) (a_cons (e_isX ⟨p.2, C, List.mem_cons_self, hP⟩ B.n_isinstance (by rfl) (pv 0) (ClsN.own (by rfl) B.u_NoFraction.choose_spec (by decide)) (fun C h => B.kq _ hc "NoFraction" (by decide) C _ h B.u_NoFraction.choose_spec)) a_nil)))))))
(b_cons (s_set (i := 1) sc__law_others.nd rfl (Or.inl rfl) (e_add (e_varT (pv 1)) (e_f_t (e_lst (a_cons (e_isX ⟨p.2, C, List.mem_cons_self, hP⟩ B.n_isinstance (by rfl) (pv 0) (ClsN.own (by rfl) B.u_Unlike.choose_spec (by decide)) (fun C h => B.kq _ hc "Unlike" (by decide) C _ h B.u_Unlike.choose_spec)) (a_cons (e_isX ⟨p.2, C, List.mem_cons_self, hP⟩ B.n_isinstance (by rfl) (pv 0) (ClsN.own (by rfl) B.u_NoQuotient.choose_spec (by decide)) (fun C h => B.kq _ hc "NoQuotient" (by decide) C _ h B.u_NoQuotient.choose_spec)) (a_cons (e_isX ⟨p.2, C, List.mem_cons_self, hP⟩ B.n_isinstance (by rfl) (pv 0) (ClsN.own (by rfl) B.u_NoPower.choose_spec (by decide)) (fun C h => B.kq _ hc "NoPower" (by decide) C _ h B.u_NoPower.choose_spec)) (a_cons (e_isX ⟨p.2, C, List.mem_cons_self, hP⟩ B.n_isinstance (by rfl) (pv 0) (ClsN.own (by rfl) B.u_TooFew.choose_spec (by decide)) (fun C h => B.kq _ hc "TooFew" (by decide) C _ h B.u_TooFew.choose_spec)) a_nil))))))))
(b_cons (s_set (i := 1) sc__law_others.nd rfl (Or.inl rfl) (e_add (e_varT (pv 1)) (e_f_t (e_lst (a_cons (e_isX ⟨p.2, C, List.mem_cons_self, hP⟩ B.n_isinstance (by rfl) (pv 0) (ClsN.own (by rfl) B.u_NoSize.choose_spec (by decide)) (fun C h => B.kq _ hc "NoSize" (by decide) C _ h B.u_NoSize.choose_spec)) (a_cons (e_isX ⟨p.2, C, List.mem_cons_self, hP⟩ B.n_isinstance (by rfl) (pv 0) (ClsN.own (by rfl) B.u_NoPolynomial.choose_spec (by decide)) (fun C h => B.kq _ hc "NoPolynomial" (by decide) C _ h B.u_NoPolynomial.choose_spec)) (a_cons (e_isX ⟨p.2, C, List.mem_cons_self, hP⟩ B.n_isinstance (by rfl) (pv 0) (ClsN.own (by rfl) B.u_NoDepth.choose_spec (by decide)) (fun C h => B.kq _ hc "NoDepth" (by decide) C _ h B.u_NoDepth.choose_spec)) (a_cons (e_isX ⟨p.2, C, List.mem_cons_self, hP⟩ B.n_isinstance (by rfl) (pv 0) (ClsN.own (by rfl) B.u_NoRoot.choose_spec (by decide)) (fun C h => B.kq _ hc "NoRoot" (by decide) C _ h B.u_NoRoot.choose_spec)) a_nil))))))))
(b_cons (s_ret (e_or (e_any2 List.mem_cons_self (List.mem_cons_of_mem _ List.mem_cons_self) hot B.n_any (by rfl) (a_cons (e_varT (pv 1)) a_nil)) (e_one (e_isX ⟨p.2, C, List.mem_cons_self, hP⟩ B.n_isinstance (by rfl) (pv 0) (ClsN.own (by rfl) B.u_NotNear.choose_spec (by decide)) (fun C h => B.kq _ hc "NotNear" (by decide) C _ h B.u_NotNear.choose_spec)))))
b_nil))))
theorem ok__law_others (B : Tx K mg) {c : Str} (hc : c ∈ csL) : OkX2 P w K mg base "_law_others" "_law_e" 1 c (F__law_others c) := def_okX2 B.d__law_others sc__law_others (by decide) fun f cdv A outer s H E p q C hP hot hr => bd__law_others B hc hP hot hr
theorem bd__law_refused (B : Tx K mg) {f : Addr} {cdv : Value} {A : Around} {outer : List PySem.Env} {s : Shared} {H : Hp} {E : XK} (hr : Room 4 (A.deeper (envOfC "_law_refused" (defScope st__law_refused) s.heap.objs.size f cdv))) :
    BJ (cxOf (L2N.CX P w) P w K mg base ["_law_thing", "_law_found", "_law_e"] "_law_refused" (defScope st__law_refused) f cdv A outer s H E) (fun cls d _ H => E cls d H) false (defBody st__law_refused) D__law_refused :=
  (b_cons (s_set (i := 1) sc__law_refused.nd rfl (Or.inl rfl) e_bl)
(b_cons (s_tryX (i := 2) rfl rfl sc__law_refused.nd rfl rfl ⟨by rfl, by decide, .inl B.u_LeftError.choose_spec⟩ (fun c hc C h => B.ke c hc C _ h B.u_LeftError.choose_spec) (fun W pn xe tk hp => (b_cons (s_expr (e_callX (ok_read_left B) hr (by decide) tk (by rfl) (a_cons (e_var (pv 0)) a_nil) (ALen.cons ALen.nil)))
b_nil)) (fun p q pn c C hc hP hot => (b_cons (s_set (i := 1) sc__law_refused.nd rfl (Or.inl rfl) (e_and (e_isX ⟨p.2, C, List.mem_cons_self, hP⟩ B.n_isinstance (by rfl) (pv 2) (ClsN.own (by rfl) B.u_NoText.choose_spec (by decide)) (fun C h => B.kq _ hc "NoText" (by decide) C _ h B.u_NoText.choose_spec)) (e_and (e_isX ⟨p.2, C, List.mem_cons_self, hP⟩ B.n_isinstance (by rfl) (pv 2) (ClsN.ty (pe_bltn (by rfl) B.n_ValueError (by decide +kernel) rfl)) (fun C h => B.kv _ hc C h)) (e_one (e_not (e_hot2 List.mem_cons_self (List.mem_cons_of_mem _ List.mem_cons_self) hP hot rfl (ok__law_others B hc) (roomS hr) (by decide) (by rfl) (pv 2)))))))
b_nil)))
(b_cons (s_ret (e_var (pv 1)))
b_nil)))
theorem ok__law_refused (B : Tx K mg) : Okd P w K mg base "_law_refused" ["_law_thing"] 5 1 false F__law_refused := def_ok B.d__law_refused sc__law_refused rfl (fun z => nomatch z) fun f cdv A outer s H E hr => bd__law_refused B hr
theorem bd_law (B : Tx K mg) {f : Addr} {cdv : Value} {A : Around} {outer : List PySem.Env} {s : Shared} {H : Hp} {E : XK} (hr : Room 5 (A.deeper (envOfC "law" (defScope st_law) s.heap.objs.size f cdv))) :
    BJ (cxOf (L2N.CX P w) P w K mg base ["_law_script", "_law_cell", "_law_p", "_law_text_here", "_law_due_here", "_law_one"] "law" (defScope st_law) f cdv A outer s H E) (fun cls d _ H => E cls d H) false (defBody st_law) D_law :=
  (b_cons (s_set (i := 1) sc_law.nd rfl (Or.inl rfl) (e_callD (ok__law_cell_at B) hr (by decide) tk_of (by rfl) (a_cons (e_var (pv 0)) (a_cons e_int a_nil)) (ALen.cons (ALen.cons ALen.nil))))
(b_cons (s_set (i := 2) sc_law.nd rfl (Or.inr rfl) (e_item (e_f_t (e_call0 (ok__law_primes B) hr (by decide) (noexc__law_primes) (by rfl))) (e_s_t (e_mod (e_s_t (e_callD (ok__law_cell_at B) hr (by decide) tk_of (by rfl) (a_cons (e_var (pv 0)) (a_cons e_int a_nil)) (ALen.cons (ALen.cons ALen.nil)))) (e_s_t e_int))) (fun _ _ => rfl)))
(b_cons (s_set (i := 3) sc_law.nd rfl (Or.inl rfl) (e_callD (ok__law_text B) hr (by decide) tk_of (by rfl) (a_cons (e_var (pv 2)) (a_cons (e_callD (ok__law_place B) hr (by decide) tk_of (by rfl) (a_cons (e_callD (ok__law_cell_at B) hr (by decide) tk_of (by rfl) (a_cons (e_var (pv 0)) (a_cons e_int a_nil)) (ALen.cons (ALen.cons ALen.nil))) a_nil) (ALen.cons ALen.nil)) (a_cons (e_f_s (e_lc (own := [("_law_one", 5)]) rfl sc_law.nd (i_seq (e_slice (e_varT (pv 0)) (o_some e_int) (o_some e_int))) (blkOk_by (own := [("_law_one", 5)]) (N := ["_law_script", "_law_cell", "_law_p", "_law_text_here", "_law_due_here", "_law_one"]) (sc := defScope st_law) (by decide +kernel)) (by decide) (fun _ _ _ _ _ => (g_name (pg_name (i := 5) sc_law.nd rfl (Or.inl rfl)))) (fun _ _ _ _ _ => c_nil) (fun _ _ _ _ _ => (e_mod (e_varT (pv 5)) (e_varT (pv 2)))))) a_nil))) (ALen.cons (ALen.cons (ALen.cons ALen.nil)))))
(b_cons (s_if (t_eq hr.units (e_s_t (e_mod (e_varT (pv 1)) (e_s_t e_int))) (e_s_t e_int))
(b_cons (s_ret (e_callD (ok__law_refused B) hr (by decide) tk_of (by rfl) (a_cons (e_item (e_f_t (e_lst (a_cons e_non (a_cons e_int (a_cons (e_f_s (e_lst (a_cons e_str a_nil))) (a_cons (e_tup (a_cons e_str a_nil)) (a_cons e_bl (a_cons e_dct a_nil)))))))) (e_s_t (e_mod (e_s_t (e_fdiv (e_varT (pv 1)) (e_s_t e_int))) (e_s_t e_int))) (fun _ _ => rfl)) a_nil) (ALen.cons ALen.nil)))
b_nil)
b_nil)
(b_cons (s_if (t_gt (e_s_t (e_mod (e_varT (pv 1)) (e_s_t e_int))) (e_s_t e_int))
(b_cons (s_set (i := 3) sc_law.nd rfl (Or.inl rfl) (e_callD (ok__law_spoiled B) hr (by decide) tk_of (by rfl) (a_cons (e_var (pv 3)) (a_cons (e_callD (ok__law_cell_at B) hr (by decide) tk_of (by rfl) (a_cons (e_var (pv 0)) (a_cons e_int a_nil)) (ALen.cons (ALen.cons ALen.nil))) (a_cons (e_callD (ok__law_cell_at B) hr (by decide) tk_of (by rfl) (a_cons (e_var (pv 0)) (a_cons e_int a_nil)) (ALen.cons (ALen.cons ALen.nil))) a_nil))) (ALen.cons (ALen.cons (ALen.cons ALen.nil)))))
b_nil)
b_nil)
(b_cons (s_if (t_eq hr.units (e_s_t (e_mod (e_varT (pv 1)) (e_s_t e_int))) (e_s_t e_int))
(b_cons (s_set (i := 3) sc_law.nd rfl (Or.inl rfl) (e_callD (ok__law_spoiled B) hr (by decide) tk_of (by rfl) (a_cons (e_var (pv 3)) (a_cons (e_fdiv (e_s_t (e_callD (ok__law_cell_at B) hr (by decide) tk_of (by rfl) (a_cons (e_var (pv 0)) (a_cons e_int a_nil)) (ALen.cons (ALen.cons ALen.nil)))) (e_s_t e_int)) (a_cons (e_fdiv (e_s_t (e_callD (ok__law_cell_at B) hr (by decide) tk_of (by rfl) (a_cons (e_var (pv 0)) (a_cons e_int a_nil)) (ALen.cons (ALen.cons ALen.nil)))) (e_s_t e_int)) a_nil))) (ALen.cons (ALen.cons (ALen.cons ALen.nil)))))
b_nil)
b_nil)
(b_cons (s_set (i := 4) sc_law.nd rfl (Or.inl rfl) (e_callD (ok__law_due B) hr (by decide) tk_of (by rfl) (a_cons (e_var (pv 3)) a_nil) (ALen.cons ALen.nil)))
(b_cons (s_if (t_isN (e_varT (pv 4)) (e_s_t e_non))
(b_cons (s_ret (e_callD (ok__law_refused B) hr (by decide) tk_of (by rfl) (a_cons (e_var (pv 3)) a_nil) (ALen.cons ALen.nil)))
b_nil)
b_nil)
(b_cons (s_ret (e_eq hr.units (e_s_t (e_callN (ok_read_left B) hr (by decide) (by rfl) (a_cons (e_var (pv 3)) a_nil) (ALen.cons ALen.nil))) (e_varT (pv 4))))
b_nil)))))))))
end
theorem all_mk {l : PySem.W.OpenLaw} {w : World} {K : PySem.W.Frag} {h : Heap} {mg : Str → Option Value} {fa : Addr} (X : K.In h) (G : h.Ns mainGlobals mg) (hfa : mg "law" = some (.ref fa))
    {f0 : Addr} {od0 an0 : Option Addr} {sl0 : Array (Option Value)} {oc0 kV0 dc0 pm0 cd0 ct0 : Value}
    {f1 : Addr} {od1 an1 : Option Addr} {sl1 : Array (Option Value)} {oc1 kV1 dc1 pm1 cd1 ct1 : Value}
    {f2 : Addr} {od2 an2 : Option Addr} {sl2 : Array (Option Value)} {oc2 kV2 dc2 pm2 cd2 ct2 : Value}
    {f3 : Addr} {od3 an3 : Option Addr} {sl3 : Array (Option Value)} {oc3 kV3 dc3 pm3 cd3 ct3 : Value}
    {f4 : Addr} {od4 an4 : Option Addr} {sl4 : Array (Option Value)} {oc4 kV4 dc4 pm4 cd4 ct4 : Value}
    {f5 : Addr} {od5 an5 : Option Addr} {sl5 : Array (Option Value)} {oc5 kV5 dc5 pm5 cd5 ct5 : Value}
    {f6 : Addr} {od6 an6 : Option Addr} {sl6 : Array (Option Value)} {oc6 kV6 dc6 pm6 cd6 ct6 : Value}
    {f7 : Addr} {od7 an7 : Option Addr} {sl7 : Array (Option Value)} {oc7 kV7 dc7 pm7 cd7 ct7 : Value}
    {f8 : Addr} {od8 an8 : Option Addr} {sl8 : Array (Option Value)} {oc8 kV8 dc8 pm8 cd8 ct8 : Value}
    {f9 : Addr} {od9 an9 : Option Addr} {sl9 : Array (Option Value)} {oc9 kV9 dc9 pm9 cd9 ct9 : Value}
    {f10 : Addr} {od10 an10 : Option Addr} {sl10 : Array (Option Value)} {oc10 kV10 dc10 pm10 cd10 ct10 : Value}
    {f11 : Addr} {od11 an11 : Option Addr} {sl11 : Array (Option Value)} {oc11 kV11 dc11 pm11 cd11 ct11 : Value}
    {f12 : Addr} {od12 an12 : Option Addr} {sl12 : Array (Option Value)} {oc12 kV12 dc12 pm12 cd12 ct12 : Value}
    {f13 : Addr} {od13 an13 : Option Addr} {sl13 : Array (Option Value)} {oc13 kV13 dc13 pm13 cd13 ct13 : Value}
    {f14 : Addr} {od14 an14 : Option Addr} {sl14 : Array (Option Value)} {oc14 kV14 dc14 pm14 cd14 ct14 : Value}
    {f15 : Addr} {od15 an15 : Option Addr} {sl15 : Array (Option Value)} {oc15 kV15 dc15 pm15 cd15 ct15 : Value}
    {t0 : Tok}
    {t1 : Tok}
    {t2 : Tok}
    {C0 : Addr}
    {C1 : Addr}
    {C2 : Addr}
    {C3 : Addr}
    {V0 : Addr}
    {U0 : Addr}
    {U1 : Addr}
    {U2 : Addr}
    {U3 : Addr}
    {U4 : Addr}
    {U5 : Addr}
    {U6 : Addr}
    {U7 : Addr}
    {U8 : Addr}
    {U9 : Addr}
    {U10 : Addr}
    {U11 : Addr}
    {U12 : Addr}
    {U13 : Addr}
    {U14 : Addr}
    (a0 : PySem.W.nsIn K mainGlobals "is_whole" = some (some (.ref f0))) (l0 : K.lookup f0 = some ⟨oc0, od0, .func (PySem.W.fnOf "is_whole" "is_whole" (defArgs st_is_whole) (defBody st_is_whole) (defScope st_is_whole) .none kV0 dc0 pm0 an0 cd0 ct0), sl0⟩) (c0 : PySem.W.codeIn K cd0 "is_whole" = true) (k0 : PySem.W.keepIn K (.ref f0) = true)
    (a1 : PySem.W.nsIn K mainGlobals "is_prime" = some (some (.ref f1))) (l1 : K.lookup f1 = some ⟨oc1, od1, .func (PySem.W.fnOf "is_prime" "is_prime" (defArgs st_is_prime) (defBody st_is_prime) (defScope st_is_prime) .none kV1 dc1 pm1 an1 cd1 ct1), sl1⟩) (c1 : PySem.W.codeIn K cd1 "is_prime" = true) (k1 : PySem.W.keepIn K (.ref f1) = true)
    (a2 : PySem.W.nsIn K mainGlobals "are_figures" = some (some (.ref f2))) (l2 : K.lookup f2 = some ⟨oc2, od2, .func (PySem.W.fnOf "are_figures" "are_figures" (defArgs st_are_figures) (defBody st_are_figures) (defScope st_are_figures) .none kV2 dc2 pm2 an2 cd2 ct2), sl2⟩) (c2 : PySem.W.codeIn K cd2 "are_figures" = true) (k2 : PySem.W.keepIn K (.ref f2) = true)
    (a3 : PySem.W.nsIn K mainGlobals "left_number" = some (some (.ref f3))) (l3 : K.lookup f3 = some ⟨oc3, od3, .func (PySem.W.fnOf "left_number" "left_number" (defArgs st_left_number) (defBody st_left_number) (defScope st_left_number) .none kV3 dc3 pm3 an3 cd3 ct3), sl3⟩) (c3 : PySem.W.codeIn K cd3 "left_number" = true) (k3 : PySem.W.keepIn K (.ref f3) = true)
    (a4 : PySem.W.nsIn K mainGlobals "number_of" = some (some (.ref f4))) (l4 : K.lookup f4 = some ⟨oc4, od4, .func (PySem.W.fnOf "number_of" "number_of" (defArgs st_number_of) (defBody st_number_of) (defScope st_number_of) .none kV4 dc4 pm4 an4 cd4 ct4), sl4⟩) (c4 : PySem.W.codeIn K cd4 "number_of" = true) (k4 : PySem.W.keepIn K (.ref f4) = true)
    (a5 : PySem.W.nsIn K mainGlobals "read_left" = some (some (.ref f5))) (l5 : K.lookup f5 = some ⟨oc5, od5, .func (PySem.W.fnOf "read_left" "read_left" (defArgs st_read_left) (defBody st_read_left) (defScope st_read_left) .none kV5 dc5 pm5 an5 cd5 ct5), sl5⟩) (c5 : PySem.W.codeIn K cd5 "read_left" = true) (k5 : PySem.W.keepIn K (.ref f5) = true)
    (a6 : PySem.W.nsIn K mainGlobals "_law_cell_at" = some (some (.ref f6))) (l6 : K.lookup f6 = some ⟨oc6, od6, .func (PySem.W.fnOf "_law_cell_at" "_law_cell_at" (defArgs st__law_cell_at) (defBody st__law_cell_at) (defScope st__law_cell_at) .none kV6 dc6 pm6 an6 cd6 ct6), sl6⟩) (c6 : PySem.W.codeIn K cd6 "_law_cell_at" = true) (k6 : PySem.W.keepIn K (.ref f6) = true)
    (a7 : PySem.W.nsIn K mainGlobals "_law_primes" = some (some (.ref f7))) (l7 : K.lookup f7 = some ⟨oc7, od7, .func (PySem.W.fnOf "_law_primes" "_law_primes" (defArgs st__law_primes) (defBody st__law_primes) (defScope st__law_primes) .none kV7 dc7 pm7 an7 cd7 ct7), sl7⟩) (c7 : PySem.W.codeIn K cd7 "_law_primes" = true) (k7 : PySem.W.keepIn K (.ref f7) = true)
    (a8 : PySem.W.nsIn K mainGlobals "_law_place" = some (some (.ref f8))) (l8 : K.lookup f8 = some ⟨oc8, od8, .func (PySem.W.fnOf "_law_place" "_law_place" (defArgs st__law_place) (defBody st__law_place) (defScope st__law_place) .none kV8 dc8 pm8 an8 cd8 ct8), sl8⟩) (c8 : PySem.W.codeIn K cd8 "_law_place" = true) (k8 : PySem.W.keepIn K (.ref f8) = true)
    (a9 : PySem.W.nsIn K mainGlobals "_law_text" = some (some (.ref f9))) (l9 : K.lookup f9 = some ⟨oc9, od9, .func (PySem.W.fnOf "_law_text" "_law_text" (defArgs st__law_text) (defBody st__law_text) (defScope st__law_text) .none kV9 dc9 pm9 an9 cd9 ct9), sl9⟩) (c9 : PySem.W.codeIn K cd9 "_law_text" = true) (k9 : PySem.W.keepIn K (.ref f9) = true)
    (a10 : PySem.W.nsIn K mainGlobals "_law_spoiled" = some (some (.ref f10))) (l10 : K.lookup f10 = some ⟨oc10, od10, .func (PySem.W.fnOf "_law_spoiled" "_law_spoiled" (defArgs st__law_spoiled) (defBody st__law_spoiled) (defScope st__law_spoiled) .none kV10 dc10 pm10 an10 cd10 ct10), sl10⟩) (c10 : PySem.W.codeIn K cd10 "_law_spoiled" = true) (k10 : PySem.W.keepIn K (.ref f10) = true)
    (a11 : PySem.W.nsIn K mainGlobals "_law_is_number" = some (some (.ref f11))) (l11 : K.lookup f11 = some ⟨oc11, od11, .func (PySem.W.fnOf "_law_is_number" "_law_is_number" (defArgs st__law_is_number) (defBody st__law_is_number) (defScope st__law_is_number) .none kV11 dc11 pm11 an11 cd11 ct11), sl11⟩) (c11 : PySem.W.codeIn K cd11 "_law_is_number" = true) (k11 : PySem.W.keepIn K (.ref f11) = true)
    (a12 : PySem.W.nsIn K mainGlobals "_law_due" = some (some (.ref f12))) (l12 : K.lookup f12 = some ⟨oc12, od12, .func (PySem.W.fnOf "_law_due" "_law_due" (defArgs st__law_due) (defBody st__law_due) (defScope st__law_due) .none kV12 dc12 pm12 an12 cd12 ct12), sl12⟩) (c12 : PySem.W.codeIn K cd12 "_law_due" = true) (k12 : PySem.W.keepIn K (.ref f12) = true)
    (a13 : PySem.W.nsIn K mainGlobals "_law_others" = some (some (.ref f13))) (l13 : K.lookup f13 = some ⟨oc13, od13, .func (PySem.W.fnOf "_law_others" "_law_others" (defArgs st__law_others) (defBody st__law_others) (defScope st__law_others) .none kV13 dc13 pm13 an13 cd13 ct13), sl13⟩) (c13 : PySem.W.codeIn K cd13 "_law_others" = true) (k13 : PySem.W.keepIn K (.ref f13) = true)
    (a14 : PySem.W.nsIn K mainGlobals "_law_refused" = some (some (.ref f14))) (l14 : K.lookup f14 = some ⟨oc14, od14, .func (PySem.W.fnOf "_law_refused" "_law_refused" (defArgs st__law_refused) (defBody st__law_refused) (defScope st__law_refused) .none kV14 dc14 pm14 an14 cd14 ct14), sl14⟩) (c14 : PySem.W.codeIn K cd14 "_law_refused" = true) (k14 : PySem.W.keepIn K (.ref f14) = true)
    (a15 : PySem.W.nsIn K mainGlobals "law" = some (some (.ref f15))) (l15 : K.lookup f15 = some ⟨oc15, od15, .func (PySem.W.fnOf "law" "law" (defArgs st_law) (defBody st_law) (defScope st_law) .none kV15 dc15 pm15 an15 cd15 ct15), sl15⟩) (c15 : PySem.W.codeIn K cd15 "law" = true) (k15 : PySem.W.keepIn K (.ref f15) = true)
    (z0 : PySem.W.nsIn K mainGlobals "ValueError" = some none)
    (z1 : PySem.W.nsIn K mainGlobals "all" = some none)
    (z2 : PySem.W.nsIn K mainGlobals "any" = some none)
    (z3 : PySem.W.nsIn K mainGlobals "bool" = some none)
    (z4 : PySem.W.nsIn K mainGlobals "int" = some none)
    (z5 : PySem.W.nsIn K mainGlobals "isinstance" = some none)
    (z6 : PySem.W.nsIn K mainGlobals "len" = some none)
    (z7 : PySem.W.nsIn K mainGlobals "list" = some none)
    (z8 : PySem.W.nsIn K mainGlobals "range" = some none)
    (z9 : PySem.W.nsIn K mainGlobals "reversed" = some none)
    (z10 : PySem.W.nsIn K mainGlobals "str" = some none)
    (z11 : PySem.W.nsIn K mainGlobals "tuple" = some none)
    (g0 : PySem.W.nsIn K mainGlobals "FIGURES" = some (some (.str "0123456789" t0)))
    (g1 : PySem.W.nsIn K mainGlobals "MOST_FIGURES" = some (some (.int 31 t1)))
    (g2 : PySem.W.nsIn K mainGlobals "MOST_PRIME" = some (some (.int 97 t2)))
    (xa0 : PySem.W.nsIn K mainGlobals "NoFigures" = some (some (.ref C0))) (xe0 : PySem.W.excIn K C0 [.type "ValueError", .type "Exception", .type "BaseException", .type "object"] "ValueError.__new__" = true) (xk0 : PySem.W.keepIn K (.ref C0) = true) (xs0 : PySem.W.subIn K (.ref C0) (.type "BaseException") = some true) (xt0 : PySem.W.typeIn K (.ref C0) = some (.type "type"))
    (xa1 : PySem.W.nsIn K mainGlobals "NoPlace" = some (some (.ref C1))) (xe1 : PySem.W.excIn K C1 [.type "ValueError", .type "Exception", .type "BaseException", .type "object"] "ValueError.__new__" = true) (xk1 : PySem.W.keepIn K (.ref C1) = true) (xs1 : PySem.W.subIn K (.ref C1) (.type "BaseException") = some true) (xt1 : PySem.W.typeIn K (.ref C1) = some (.type "type"))
    (xa2 : PySem.W.nsIn K mainGlobals "NoPrime" = some (some (.ref C2))) (xe2 : PySem.W.excIn K C2 [.type "ValueError", .type "Exception", .type "BaseException", .type "object"] "ValueError.__new__" = true) (xk2 : PySem.W.keepIn K (.ref C2) = true) (xs2 : PySem.W.subIn K (.ref C2) (.type "BaseException") = some true) (xt2 : PySem.W.typeIn K (.ref C2) = some (.type "type"))
    (xa3 : PySem.W.nsIn K mainGlobals "NoText" = some (some (.ref C3))) (xe3 : PySem.W.excIn K C3 [.type "ValueError", .type "Exception", .type "BaseException", .type "object"] "ValueError.__new__" = true) (xk3 : PySem.W.keepIn K (.ref C3) = true) (xs3 : PySem.W.subIn K (.ref C3) (.type "BaseException") = some true) (xt3 : PySem.W.typeIn K (.ref C3) = some (.type "type"))
    (va0 : PySem.W.nsIn K mainGlobals "LeftError" = some (some (.ref V0))) (vb0 : PySem.W.subIn K (.ref V0) (.type "BaseException") = some true) (vd0 : PySem.W.hasDictIn K V0 = true) (vt0 : PySem.W.typeIn K (.ref V0) = some (.type "type")) (vs0 : PySem.W.subIn K (.ref V0) (.ref V0) = some true)
    (ua0 : PySem.W.nsIn K mainGlobals "LeftError" = some (some (.ref U0)))
    (ua1 : PySem.W.nsIn K mainGlobals "NoDepth" = some (some (.ref U1)))
    (ua2 : PySem.W.nsIn K mainGlobals "NoFigures" = some (some (.ref U2)))
    (ua3 : PySem.W.nsIn K mainGlobals "NoFraction" = some (some (.ref U3)))
    (ua4 : PySem.W.nsIn K mainGlobals "NoPlace" = some (some (.ref U4)))
    (ua5 : PySem.W.nsIn K mainGlobals "NoPolynomial" = some (some (.ref U5)))
    (ua6 : PySem.W.nsIn K mainGlobals "NoPower" = some (some (.ref U6)))
    (ua7 : PySem.W.nsIn K mainGlobals "NoPrime" = some (some (.ref U7)))
    (ua8 : PySem.W.nsIn K mainGlobals "NoQuotient" = some (some (.ref U8)))
    (ua9 : PySem.W.nsIn K mainGlobals "NoRoot" = some (some (.ref U9)))
    (ua10 : PySem.W.nsIn K mainGlobals "NoSize" = some (some (.ref U10)))
    (ua11 : PySem.W.nsIn K mainGlobals "NoText" = some (some (.ref U11)))
    (ua12 : PySem.W.nsIn K mainGlobals "NotNear" = some (some (.ref U12)))
    (ua13 : PySem.W.nsIn K mainGlobals "TooFew" = some (some (.ref U13)))
    (ua14 : PySem.W.nsIn K mainGlobals "Unlike" = some (some (.ref U14)))
    (lb : PySem.W.subIn K (.ref U0) (.type "BaseException") = some true) (ld : PySem.W.hasDictIn K U0 = true) (lt : PySem.W.typeIn K (.ref U0) = some (.type "type"))
    (q12 : PySem.W.findIn K (.ref U2) "__getattribute__" = some (some (.builtin "BaseException.__getattribute__"))) (q22 : PySem.W.findIn K (.ref U2) "__getattr__" = some none) (q32 : PySem.W.subIn K (.ref U2) (.type "BaseException") = some true) (q42 : PySem.W.hasDictIn K U2 = true) (q52 : PySem.W.findIn K (.ref U2) "__class__" = some (some (.builtin "object.__class__"))) (q82 : PySem.W.mroIn K U2 (.type "object") = some true) (q92 : PySem.W.subIn K (.ref U2) (.ref U0) = some true) (qv2 : PySem.W.kitOne K (.ref U2) (.type "ValueError") = some true)
    (k2_1 : PySem.W.kitOne K (.ref U2) (.ref U1) = some false)
    (k2_2 : PySem.W.kitOne K (.ref U2) (.ref U2) = some true)
    (k2_3 : PySem.W.kitOne K (.ref U2) (.ref U3) = some false)
    (k2_4 : PySem.W.kitOne K (.ref U2) (.ref U4) = some false)
    (k2_5 : PySem.W.kitOne K (.ref U2) (.ref U5) = some false)
    (k2_6 : PySem.W.kitOne K (.ref U2) (.ref U6) = some false)
    (k2_7 : PySem.W.kitOne K (.ref U2) (.ref U7) = some false)
    (k2_8 : PySem.W.kitOne K (.ref U2) (.ref U8) = some false)
    (k2_9 : PySem.W.kitOne K (.ref U2) (.ref U9) = some false)
    (k2_10 : PySem.W.kitOne K (.ref U2) (.ref U10) = some false)
    (k2_11 : PySem.W.kitOne K (.ref U2) (.ref U11) = some false)
    (k2_12 : PySem.W.kitOne K (.ref U2) (.ref U12) = some false)
    (k2_13 : PySem.W.kitOne K (.ref U2) (.ref U13) = some false)
    (k2_14 : PySem.W.kitOne K (.ref U2) (.ref U14) = some false)
    (q14 : PySem.W.findIn K (.ref U4) "__getattribute__" = some (some (.builtin "BaseException.__getattribute__"))) (q24 : PySem.W.findIn K (.ref U4) "__getattr__" = some none) (q34 : PySem.W.subIn K (.ref U4) (.type "BaseException") = some true) (q44 : PySem.W.hasDictIn K U4 = true) (q54 : PySem.W.findIn K (.ref U4) "__class__" = some (some (.builtin "object.__class__"))) (q84 : PySem.W.mroIn K U4 (.type "object") = some true) (q94 : PySem.W.subIn K (.ref U4) (.ref U0) = some true) (qv4 : PySem.W.kitOne K (.ref U4) (.type "ValueError") = some true)
    (k4_1 : PySem.W.kitOne K (.ref U4) (.ref U1) = some false)
    (k4_2 : PySem.W.kitOne K (.ref U4) (.ref U2) = some false)
    (k4_3 : PySem.W.kitOne K (.ref U4) (.ref U3) = some false)
    (k4_4 : PySem.W.kitOne K (.ref U4) (.ref U4) = some true)
    (k4_5 : PySem.W.kitOne K (.ref U4) (.ref U5) = some false)
    (k4_6 : PySem.W.kitOne K (.ref U4) (.ref U6) = some false)
    (k4_7 : PySem.W.kitOne K (.ref U4) (.ref U7) = some false)
    (k4_8 : PySem.W.kitOne K (.ref U4) (.ref U8) = some false)
    (k4_9 : PySem.W.kitOne K (.ref U4) (.ref U9) = some false)
    (k4_10 : PySem.W.kitOne K (.ref U4) (.ref U10) = some false)
    (k4_11 : PySem.W.kitOne K (.ref U4) (.ref U11) = some false)
    (k4_12 : PySem.W.kitOne K (.ref U4) (.ref U12) = some false)
    (k4_13 : PySem.W.kitOne K (.ref U4) (.ref U13) = some false)
    (k4_14 : PySem.W.kitOne K (.ref U4) (.ref U14) = some false)
    (q17 : PySem.W.findIn K (.ref U7) "__getattribute__" = some (some (.builtin "BaseException.__getattribute__"))) (q27 : PySem.W.findIn K (.ref U7) "__getattr__" = some none) (q37 : PySem.W.subIn K (.ref U7) (.type "BaseException") = some true) (q47 : PySem.W.hasDictIn K U7 = true) (q57 : PySem.W.findIn K (.ref U7) "__class__" = some (some (.builtin "object.__class__"))) (q87 : PySem.W.mroIn K U7 (.type "object") = some true) (q97 : PySem.W.subIn K (.ref U7) (.ref U0) = some true) (qv7 : PySem.W.kitOne K (.ref U7) (.type "ValueError") = some true)
    (k7_1 : PySem.W.kitOne K (.ref U7) (.ref U1) = some false)
    (k7_2 : PySem.W.kitOne K (.ref U7) (.ref U2) = some false)
    (k7_3 : PySem.W.kitOne K (.ref U7) (.ref U3) = some false)
    (k7_4 : PySem.W.kitOne K (.ref U7) (.ref U4) = some false)
    (k7_5 : PySem.W.kitOne K (.ref U7) (.ref U5) = some false)
    (k7_6 : PySem.W.kitOne K (.ref U7) (.ref U6) = some false)
    (k7_7 : PySem.W.kitOne K (.ref U7) (.ref U7) = some true)
    (k7_8 : PySem.W.kitOne K (.ref U7) (.ref U8) = some false)
    (k7_9 : PySem.W.kitOne K (.ref U7) (.ref U9) = some false)
    (k7_10 : PySem.W.kitOne K (.ref U7) (.ref U10) = some false)
    (k7_11 : PySem.W.kitOne K (.ref U7) (.ref U11) = some false)
    (k7_12 : PySem.W.kitOne K (.ref U7) (.ref U12) = some false)
    (k7_13 : PySem.W.kitOne K (.ref U7) (.ref U13) = some false)
    (k7_14 : PySem.W.kitOne K (.ref U7) (.ref U14) = some false)
    (q111 : PySem.W.findIn K (.ref U11) "__getattribute__" = some (some (.builtin "BaseException.__getattribute__"))) (q211 : PySem.W.findIn K (.ref U11) "__getattr__" = some none) (q311 : PySem.W.subIn K (.ref U11) (.type "BaseException") = some true) (q411 : PySem.W.hasDictIn K U11 = true) (q511 : PySem.W.findIn K (.ref U11) "__class__" = some (some (.builtin "object.__class__"))) (q811 : PySem.W.mroIn K U11 (.type "object") = some true) (q911 : PySem.W.subIn K (.ref U11) (.ref U0) = some true) (qv11 : PySem.W.kitOne K (.ref U11) (.type "ValueError") = some true)
    (k11_1 : PySem.W.kitOne K (.ref U11) (.ref U1) = some false)
    (k11_2 : PySem.W.kitOne K (.ref U11) (.ref U2) = some false)
    (k11_3 : PySem.W.kitOne K (.ref U11) (.ref U3) = some false)
    (k11_4 : PySem.W.kitOne K (.ref U11) (.ref U4) = some false)
    (k11_5 : PySem.W.kitOne K (.ref U11) (.ref U5) = some false)
    (k11_6 : PySem.W.kitOne K (.ref U11) (.ref U6) = some false)
    (k11_7 : PySem.W.kitOne K (.ref U11) (.ref U7) = some false)
    (k11_8 : PySem.W.kitOne K (.ref U11) (.ref U8) = some false)
    (k11_9 : PySem.W.kitOne K (.ref U11) (.ref U9) = some false)
    (k11_10 : PySem.W.kitOne K (.ref U11) (.ref U10) = some false)
    (k11_11 : PySem.W.kitOne K (.ref U11) (.ref U11) = some true)
    (k11_12 : PySem.W.kitOne K (.ref U11) (.ref U12) = some false)
    (k11_13 : PySem.W.kitOne K (.ref U11) (.ref U13) = some false)
    (k11_14 : PySem.W.kitOne K (.ref U11) (.ref U14) = some false)
    (q6 : PySem.W.specialIn K (.builtin "object.__class__") "__get__" = some (some (.builtin "getset_descriptor.__get__"))) (q7 : PySem.W.takesIn K (.builtin "object.__class__") = some true)
    : ∃ fd : FuncData, (∀ (s : Shared) (v : Value), BindsTo s fd ⟨[v], []⟩ [("_law_script", v)]) ∧ ∀ base : Heap, K.In base → base.Ns mainGlobals mg → FnOk l.prog w K mg base (L2N.CX l.prog w) 6 fa fd ["_law_script"] (spLaw K) := by
  have e := hfa.symm.trans (PySem.W.mg_of X G a15)
  cases e
  have B : Tx K mg := ⟨defE_mk X G a0 l0 c0 k0 fun _ _ _ _ _ _ us hl => match us, hl with | [_], _ => rfl,
    defE_mk X G a1 l1 c1 k1 fun _ _ _ _ _ _ us hl => match us, hl with | [_], _ => rfl,
    defE_mk X G a2 l2 c2 k2 fun _ _ _ _ _ _ us hl => match us, hl with | [_, _], _ => rfl,
    defE_mk X G a3 l3 c3 k3 fun _ _ _ _ _ _ us hl => match us, hl with | [_, _, _], _ => rfl,
    defE_mk X G a4 l4 c4 k4 fun _ _ _ _ _ _ us hl => match us, hl with | [_], _ => rfl,
    defE_mk X G a5 l5 c5 k5 fun _ _ _ _ _ _ us hl => match us, hl with | [_], _ => rfl,
    defE_mk X G a6 l6 c6 k6 fun _ _ _ _ _ _ us hl => match us, hl with | [_, _], _ => rfl,
    defE_mk X G a7 l7 c7 k7 fun _ _ _ _ _ _ us hl => match us, hl with | [], _ => rfl,
    defE_mk X G a8 l8 c8 k8 fun _ _ _ _ _ _ us hl => match us, hl with | [_], _ => rfl,
    defE_mk X G a9 l9 c9 k9 fun _ _ _ _ _ _ us hl => match us, hl with | [_, _, _], _ => rfl,
    defE_mk X G a10 l10 c10 k10 fun _ _ _ _ _ _ us hl => match us, hl with | [_, _, _], _ => rfl,
    defE_mk X G a11 l11 c11 k11 fun _ _ _ _ _ _ us hl => match us, hl with | [_], _ => rfl,
    defE_mk X G a12 l12 c12 k12 fun _ _ _ _ _ _ us hl => match us, hl with | [_], _ => rfl,
    defE_mk X G a13 l13 c13 k13 fun _ _ _ _ _ _ us hl => match us, hl with | [_], _ => rfl,
    defE_mk X G a14 l14 c14 k14 fun _ _ _ _ _ _ us hl => match us, hl with | [_], _ => rfl,
    PySem.W.mg_none_of X G z0,
    PySem.W.mg_none_of X G z1,
    PySem.W.mg_none_of X G z2,
    PySem.W.mg_none_of X G z3,
    PySem.W.mg_none_of X G z4,
    PySem.W.mg_none_of X G z5,
    PySem.W.mg_none_of X G z6,
    PySem.W.mg_none_of X G z7,
    PySem.W.mg_none_of X G z8,
    PySem.W.mg_none_of X G z9,
    PySem.W.mg_none_of X G z10,
    PySem.W.mg_none_of X G z11,
    glS_mk X G g0,
    glI_mk X G g1,
    glI_mk X G g2,
    excE_mk X G xa0 xe0 xk0 xs0 xt0,
    excE_mk X G xa1 xe1 xk1 xs1 xt1,
    excE_mk X G xa2 xe2 xk2 xs2 xt2,
    excE_mk X G xa3 xe3 xk3 xs3 xt3,
    ⟨U0, PySem.W.mg_of X G ua0⟩,
    ⟨U1, PySem.W.mg_of X G ua1⟩,
    ⟨U2, PySem.W.mg_of X G ua2⟩,
    ⟨U3, PySem.W.mg_of X G ua3⟩,
    ⟨U4, PySem.W.mg_of X G ua4⟩,
    ⟨U5, PySem.W.mg_of X G ua5⟩,
    ⟨U6, PySem.W.mg_of X G ua6⟩,
    ⟨U7, PySem.W.mg_of X G ua7⟩,
    ⟨U8, PySem.W.mg_of X G ua8⟩,
    ⟨U9, PySem.W.mg_of X G ua9⟩,
    ⟨U10, PySem.W.mg_of X G ua10⟩,
    ⟨U11, PySem.W.mg_of X G ua11⟩,
    ⟨U12, PySem.W.mg_of X G ua12⟩,
    ⟨U13, PySem.W.mg_of X G ua13⟩,
    ⟨U14, PySem.W.mg_of X G ua14⟩,
    ⟨V0, PySem.W.mg_of X G va0⟩,
    ko_mk X G va0 va0 vb0 vd0 vt0 vs0,
    (fa_cons (fa_cons (kq_mk X G ua2 ua1 k2_1 (by decide)) (fa_cons (kq_mk X G ua2 ua2 k2_2 (by decide)) (fa_cons (kq_mk X G ua2 ua3 k2_3 (by decide)) (fa_cons (kq_mk X G ua2 ua4 k2_4 (by decide)) (fa_cons (kq_mk X G ua2 ua5 k2_5 (by decide)) (fa_cons (kq_mk X G ua2 ua6 k2_6 (by decide)) (fa_cons (kq_mk X G ua2 ua7 k2_7 (by decide)) (fa_cons (kq_mk X G ua2 ua8 k2_8 (by decide)) (fa_cons (kq_mk X G ua2 ua9 k2_9 (by decide)) (fa_cons (kq_mk X G ua2 ua10 k2_10 (by decide)) (fa_cons (kq_mk X G ua2 ua11 k2_11 (by decide)) (fa_cons (kq_mk X G ua2 ua12 k2_12 (by decide)) (fa_cons (kq_mk X G ua2 ua13 k2_13 (by decide)) (fa_cons (kq_mk X G ua2 ua14 k2_14 (by decide)) fa_nil)))))))))))))) (fa_cons (fa_cons (kq_mk X G ua4 ua1 k4_1 (by decide)) (fa_cons (kq_mk X G ua4 ua2 k4_2 (by decide)) (fa_cons (kq_mk X G ua4 ua3 k4_3 (by decide)) (fa_cons (kq_mk X G ua4 ua4 k4_4 (by decide)) (fa_cons (kq_mk X G ua4 ua5 k4_5 (by decide)) (fa_cons (kq_mk X G ua4 ua6 k4_6 (by decide)) (fa_cons (kq_mk X G ua4 ua7 k4_7 (by decide)) (fa_cons (kq_mk X G ua4 ua8 k4_8 (by decide)) (fa_cons (kq_mk X G ua4 ua9 k4_9 (by decide)) (fa_cons (kq_mk X G ua4 ua10 k4_10 (by decide)) (fa_cons (kq_mk X G ua4 ua11 k4_11 (by decide)) (fa_cons (kq_mk X G ua4 ua12 k4_12 (by decide)) (fa_cons (kq_mk X G ua4 ua13 k4_13 (by decide)) (fa_cons (kq_mk X G ua4 ua14 k4_14 (by decide)) fa_nil)))))))))))))) (fa_cons (fa_cons (kq_mk X G ua7 ua1 k7_1 (by decide)) (fa_cons (kq_mk X G ua7 ua2 k7_2 (by decide)) (fa_cons (kq_mk X G ua7 ua3 k7_3 (by decide)) (fa_cons (kq_mk X G ua7 ua4 k7_4 (by decide)) (fa_cons (kq_mk X G ua7 ua5 k7_5 (by decide)) (fa_cons (kq_mk X G ua7 ua6 k7_6 (by decide)) (fa_cons (kq_mk X G ua7 ua7 k7_7 (by decide)) (fa_cons (kq_mk X G ua7 ua8 k7_8 (by decide)) (fa_cons (kq_mk X G ua7 ua9 k7_9 (by decide)) (fa_cons (kq_mk X G ua7 ua10 k7_10 (by decide)) (fa_cons (kq_mk X G ua7 ua11 k7_11 (by decide)) (fa_cons (kq_mk X G ua7 ua12 k7_12 (by decide)) (fa_cons (kq_mk X G ua7 ua13 k7_13 (by decide)) (fa_cons (kq_mk X G ua7 ua14 k7_14 (by decide)) fa_nil)))))))))))))) (fa_cons (fa_cons (kq_mk X G ua11 ua1 k11_1 (by decide)) (fa_cons (kq_mk X G ua11 ua2 k11_2 (by decide)) (fa_cons (kq_mk X G ua11 ua3 k11_3 (by decide)) (fa_cons (kq_mk X G ua11 ua4 k11_4 (by decide)) (fa_cons (kq_mk X G ua11 ua5 k11_5 (by decide)) (fa_cons (kq_mk X G ua11 ua6 k11_6 (by decide)) (fa_cons (kq_mk X G ua11 ua7 k11_7 (by decide)) (fa_cons (kq_mk X G ua11 ua8 k11_8 (by decide)) (fa_cons (kq_mk X G ua11 ua9 k11_9 (by decide)) (fa_cons (kq_mk X G ua11 ua10 k11_10 (by decide)) (fa_cons (kq_mk X G ua11 ua11 k11_11 (by decide)) (fa_cons (kq_mk X G ua11 ua12 k11_12 (by decide)) (fa_cons (kq_mk X G ua11 ua13 k11_13 (by decide)) (fa_cons (kq_mk X G ua11 ua14 k11_14 (by decide)) fa_nil)))))))))))))) fa_nil)))),
    (fa_cons (kv_mk X G ua2 qv2) (fa_cons (kv_mk X G ua4 qv4) (fa_cons (kv_mk X G ua7 qv7) (fa_cons (kv_mk X G ua11 qv11) fa_nil)))),
    (fa_cons (ke_mk X G ua2 ua0 lb ld lt q92 ⟨q12, q22, q32, q42, q52, q6, q7, q82⟩) (fa_cons (ke_mk X G ua4 ua0 lb ld lt q94 ⟨q14, q24, q34, q44, q54, q6, q7, q84⟩) (fa_cons (ke_mk X G ua7 ua0 lb ld lt q97 ⟨q17, q27, q37, q47, q57, q6, q7, q87⟩) (fa_cons (ke_mk X G ua11 ua0 lb ld lt q911 ⟨q111, q211, q311, q411, q511, q6, q7, q811⟩) fa_nil))))⟩
  exact ⟨_, fun s v => .of_eq rfl, fun base _ _ => law_impB law_true (fn_mk (fun_mk (st := st_law) l15 c15 k15) sc_law rfl (fun z => nomatch z) fun cdv A outer s H E hr => bd_law B hr)⟩
def ts0 (K : PySem.W.Frag) : List Bool := [decide (PySem.W.nsIn K mainGlobals "is_whole" = some (some (.ref (He.ga K "is_whole")))),
  decide (PySem.W.nsIn K mainGlobals "is_prime" = some (some (.ref (He.ga K "is_prime")))),
  decide (PySem.W.nsIn K mainGlobals "are_figures" = some (some (.ref (He.ga K "are_figures")))),
  decide (PySem.W.nsIn K mainGlobals "left_number" = some (some (.ref (He.ga K "left_number")))),
  decide (PySem.W.nsIn K mainGlobals "number_of" = some (some (.ref (He.ga K "number_of")))),
  decide (PySem.W.nsIn K mainGlobals "read_left" = some (some (.ref (He.ga K "read_left")))),
  decide (PySem.W.nsIn K mainGlobals "_law_cell_at" = some (some (.ref (He.ga K "_law_cell_at")))),
  decide (PySem.W.nsIn K mainGlobals "_law_primes" = some (some (.ref (He.ga K "_law_primes")))),
  decide (PySem.W.nsIn K mainGlobals "_law_place" = some (some (.ref (He.ga K "_law_place")))),
  decide (PySem.W.nsIn K mainGlobals "_law_text" = some (some (.ref (He.ga K "_law_text")))),
  decide (PySem.W.nsIn K mainGlobals "_law_spoiled" = some (some (.ref (He.ga K "_law_spoiled")))),
  decide (PySem.W.nsIn K mainGlobals "_law_is_number" = some (some (.ref (He.ga K "_law_is_number")))),
  decide (PySem.W.nsIn K mainGlobals "_law_due" = some (some (.ref (He.ga K "_law_due")))),
  decide (PySem.W.nsIn K mainGlobals "_law_others" = some (some (.ref (He.ga K "_law_others")))),
  decide (PySem.W.nsIn K mainGlobals "_law_refused" = some (some (.ref (He.ga K "_law_refused")))),
  decide (PySem.W.nsIn K mainGlobals "law" = some (some (.ref (He.ga K "law")))),
  decide (PySem.W.nsIn K mainGlobals "ValueError" = some none),
  decide (PySem.W.nsIn K mainGlobals "all" = some none),
  decide (PySem.W.nsIn K mainGlobals "any" = some none),
  decide (PySem.W.nsIn K mainGlobals "bool" = some none),
  decide (PySem.W.nsIn K mainGlobals "int" = some none),
  decide (PySem.W.nsIn K mainGlobals "isinstance" = some none),
  decide (PySem.W.nsIn K mainGlobals "len" = some none),
  decide (PySem.W.nsIn K mainGlobals "list" = some none),
  decide (PySem.W.nsIn K mainGlobals "range" = some none)]
def ts1 (K : PySem.W.Frag) : List Bool := [decide (PySem.W.nsIn K mainGlobals "reversed" = some none),
  decide (PySem.W.nsIn K mainGlobals "str" = some none),
  decide (PySem.W.nsIn K mainGlobals "tuple" = some none),
  PH.strB K "FIGURES" "0123456789",
  PH.intB K "MOST_FIGURES" 31,
  PH.intB K "MOST_PRIME" 97,
  decide (PySem.W.nsIn K mainGlobals "NoFigures" = some (some (.ref (He.ga K "NoFigures")))),
  decide (PySem.W.excIn K (He.ga K "NoFigures") [.type "ValueError", .type "Exception", .type "BaseException", .type "object"] "ValueError.__new__" = true),
  decide (PySem.W.keepIn K (.ref (He.ga K "NoFigures")) = true),
  decide (PySem.W.subIn K (.ref (He.ga K "NoFigures")) (.type "BaseException") = some true),
  decide (PySem.W.typeIn K (.ref (He.ga K "NoFigures")) = some (.type "type")),
  decide (PySem.W.nsIn K mainGlobals "NoPlace" = some (some (.ref (He.ga K "NoPlace")))),
  decide (PySem.W.excIn K (He.ga K "NoPlace") [.type "ValueError", .type "Exception", .type "BaseException", .type "object"] "ValueError.__new__" = true),
  decide (PySem.W.keepIn K (.ref (He.ga K "NoPlace")) = true),
  decide (PySem.W.subIn K (.ref (He.ga K "NoPlace")) (.type "BaseException") = some true),
  decide (PySem.W.typeIn K (.ref (He.ga K "NoPlace")) = some (.type "type")),
  decide (PySem.W.nsIn K mainGlobals "NoPrime" = some (some (.ref (He.ga K "NoPrime")))),
  decide (PySem.W.excIn K (He.ga K "NoPrime") [.type "ValueError", .type "Exception", .type "BaseException", .type "object"] "ValueError.__new__" = true),
  decide (PySem.W.keepIn K (.ref (He.ga K "NoPrime")) = true),
  decide (PySem.W.subIn K (.ref (He.ga K "NoPrime")) (.type "BaseException") = some true),
  decide (PySem.W.typeIn K (.ref (He.ga K "NoPrime")) = some (.type "type")),
  decide (PySem.W.nsIn K mainGlobals "NoText" = some (some (.ref (He.ga K "NoText")))),
  decide (PySem.W.excIn K (He.ga K "NoText") [.type "ValueError", .type "Exception", .type "BaseException", .type "object"] "ValueError.__new__" = true),
  decide (PySem.W.keepIn K (.ref (He.ga K "NoText")) = true),
  decide (PySem.W.subIn K (.ref (He.ga K "NoText")) (.type "BaseException") = some true)]
def ts2 (K : PySem.W.Frag) : List Bool := [decide (PySem.W.typeIn K (.ref (He.ga K "NoText")) = some (.type "type")),
  decide (PySem.W.nsIn K mainGlobals "LeftError" = some (some (.ref (He.ga K "LeftError")))),
  decide (PySem.W.subIn K (.ref (He.ga K "LeftError")) (.type "BaseException") = some true),
  decide (PySem.W.hasDictIn K (He.ga K "LeftError") = true),
  decide (PySem.W.typeIn K (.ref (He.ga K "LeftError")) = some (.type "type")),
  decide (PySem.W.subIn K (.ref (He.ga K "LeftError")) (.ref (He.ga K "LeftError")) = some true),
  decide (PySem.W.nsIn K mainGlobals "LeftError" = some (some (.ref (He.ga K "LeftError")))),
  decide (PySem.W.nsIn K mainGlobals "NoDepth" = some (some (.ref (He.ga K "NoDepth")))),
  decide (PySem.W.nsIn K mainGlobals "NoFigures" = some (some (.ref (He.ga K "NoFigures")))),
  decide (PySem.W.nsIn K mainGlobals "NoFraction" = some (some (.ref (He.ga K "NoFraction")))),
  decide (PySem.W.nsIn K mainGlobals "NoPlace" = some (some (.ref (He.ga K "NoPlace")))),
  decide (PySem.W.nsIn K mainGlobals "NoPolynomial" = some (some (.ref (He.ga K "NoPolynomial")))),
  decide (PySem.W.nsIn K mainGlobals "NoPower" = some (some (.ref (He.ga K "NoPower")))),
  decide (PySem.W.nsIn K mainGlobals "NoPrime" = some (some (.ref (He.ga K "NoPrime")))),
  decide (PySem.W.nsIn K mainGlobals "NoQuotient" = some (some (.ref (He.ga K "NoQuotient")))),
  decide (PySem.W.nsIn K mainGlobals "NoRoot" = some (some (.ref (He.ga K "NoRoot")))),
  decide (PySem.W.nsIn K mainGlobals "NoSize" = some (some (.ref (He.ga K "NoSize")))),
  decide (PySem.W.nsIn K mainGlobals "NoText" = some (some (.ref (He.ga K "NoText")))),
  decide (PySem.W.nsIn K mainGlobals "NotNear" = some (some (.ref (He.ga K "NotNear")))),
  decide (PySem.W.nsIn K mainGlobals "TooFew" = some (some (.ref (He.ga K "TooFew")))),
  decide (PySem.W.nsIn K mainGlobals "Unlike" = some (some (.ref (He.ga K "Unlike")))),
  decide (PySem.W.subIn K (.ref (He.ga K "LeftError")) (.type "BaseException") = some true),
  decide (PySem.W.hasDictIn K (He.ga K "LeftError") = true),
  decide (PySem.W.typeIn K (.ref (He.ga K "LeftError")) = some (.type "type")),
  decide (PySem.W.findIn K (.ref (He.ga K "NoFigures")) "__getattribute__" = some (some (.builtin "BaseException.__getattribute__")))]
def ts3 (K : PySem.W.Frag) : List Bool := [decide (PySem.W.findIn K (.ref (He.ga K "NoFigures")) "__getattr__" = some none),
  decide (PySem.W.subIn K (.ref (He.ga K "NoFigures")) (.type "BaseException") = some true),
  decide (PySem.W.hasDictIn K (He.ga K "NoFigures") = true),
  decide (PySem.W.findIn K (.ref (He.ga K "NoFigures")) "__class__" = some (some (.builtin "object.__class__"))),
  decide (PySem.W.mroIn K (He.ga K "NoFigures") (.type "object") = some true),
  decide (PySem.W.subIn K (.ref (He.ga K "NoFigures")) (.ref (He.ga K "LeftError")) = some true),
  decide (PySem.W.kitOne K (.ref (He.ga K "NoFigures")) (.type "ValueError") = some true),
  decide (PySem.W.kitOne K (.ref (He.ga K "NoFigures")) (.ref (He.ga K "NoDepth")) = some false),
  decide (PySem.W.kitOne K (.ref (He.ga K "NoFigures")) (.ref (He.ga K "NoFigures")) = some true),
  decide (PySem.W.kitOne K (.ref (He.ga K "NoFigures")) (.ref (He.ga K "NoFraction")) = some false),
  decide (PySem.W.kitOne K (.ref (He.ga K "NoFigures")) (.ref (He.ga K "NoPlace")) = some false),
  decide (PySem.W.kitOne K (.ref (He.ga K "NoFigures")) (.ref (He.ga K "NoPolynomial")) = some false),
  decide (PySem.W.kitOne K (.ref (He.ga K "NoFigures")) (.ref (He.ga K "NoPower")) = some false),
  decide (PySem.W.kitOne K (.ref (He.ga K "NoFigures")) (.ref (He.ga K "NoPrime")) = some false),
  decide (PySem.W.kitOne K (.ref (He.ga K "NoFigures")) (.ref (He.ga K "NoQuotient")) = some false),
  decide (PySem.W.kitOne K (.ref (He.ga K "NoFigures")) (.ref (He.ga K "NoRoot")) = some false),
  decide (PySem.W.kitOne K (.ref (He.ga K "NoFigures")) (.ref (He.ga K "NoSize")) = some false),
  decide (PySem.W.kitOne K (.ref (He.ga K "NoFigures")) (.ref (He.ga K "NoText")) = some false),
  decide (PySem.W.kitOne K (.ref (He.ga K "NoFigures")) (.ref (He.ga K "NotNear")) = some false),
  decide (PySem.W.kitOne K (.ref (He.ga K "NoFigures")) (.ref (He.ga K "TooFew")) = some false),
  decide (PySem.W.kitOne K (.ref (He.ga K "NoFigures")) (.ref (He.ga K "Unlike")) = some false),
  decide (PySem.W.findIn K (.ref (He.ga K "NoPlace")) "__getattribute__" = some (some (.builtin "BaseException.__getattribute__"))),
  decide (PySem.W.findIn K (.ref (He.ga K "NoPlace")) "__getattr__" = some none),
  decide (PySem.W.subIn K (.ref (He.ga K "NoPlace")) (.type "BaseException") = some true),
  decide (PySem.W.hasDictIn K (He.ga K "NoPlace") = true)]
def ts4 (K : PySem.W.Frag) : List Bool := [decide (PySem.W.findIn K (.ref (He.ga K "NoPlace")) "__class__" = some (some (.builtin "object.__class__"))),
  decide (PySem.W.mroIn K (He.ga K "NoPlace") (.type "object") = some true),
  decide (PySem.W.subIn K (.ref (He.ga K "NoPlace")) (.ref (He.ga K "LeftError")) = some true),
  decide (PySem.W.kitOne K (.ref (He.ga K "NoPlace")) (.type "ValueError") = some true),
  decide (PySem.W.kitOne K (.ref (He.ga K "NoPlace")) (.ref (He.ga K "NoDepth")) = some false),
  decide (PySem.W.kitOne K (.ref (He.ga K "NoPlace")) (.ref (He.ga K "NoFigures")) = some false),
  decide (PySem.W.kitOne K (.ref (He.ga K "NoPlace")) (.ref (He.ga K "NoFraction")) = some false),
  decide (PySem.W.kitOne K (.ref (He.ga K "NoPlace")) (.ref (He.ga K "NoPlace")) = some true),
  decide (PySem.W.kitOne K (.ref (He.ga K "NoPlace")) (.ref (He.ga K "NoPolynomial")) = some false),
  decide (PySem.W.kitOne K (.ref (He.ga K "NoPlace")) (.ref (He.ga K "NoPower")) = some false),
  decide (PySem.W.kitOne K (.ref (He.ga K "NoPlace")) (.ref (He.ga K "NoPrime")) = some false),
  decide (PySem.W.kitOne K (.ref (He.ga K "NoPlace")) (.ref (He.ga K "NoQuotient")) = some false),
  decide (PySem.W.kitOne K (.ref (He.ga K "NoPlace")) (.ref (He.ga K "NoRoot")) = some false),
  decide (PySem.W.kitOne K (.ref (He.ga K "NoPlace")) (.ref (He.ga K "NoSize")) = some false),
  decide (PySem.W.kitOne K (.ref (He.ga K "NoPlace")) (.ref (He.ga K "NoText")) = some false),
  decide (PySem.W.kitOne K (.ref (He.ga K "NoPlace")) (.ref (He.ga K "NotNear")) = some false),
  decide (PySem.W.kitOne K (.ref (He.ga K "NoPlace")) (.ref (He.ga K "TooFew")) = some false),
  decide (PySem.W.kitOne K (.ref (He.ga K "NoPlace")) (.ref (He.ga K "Unlike")) = some false),
  decide (PySem.W.findIn K (.ref (He.ga K "NoPrime")) "__getattribute__" = some (some (.builtin "BaseException.__getattribute__"))),
  decide (PySem.W.findIn K (.ref (He.ga K "NoPrime")) "__getattr__" = some none),
  decide (PySem.W.subIn K (.ref (He.ga K "NoPrime")) (.type "BaseException") = some true),
  decide (PySem.W.hasDictIn K (He.ga K "NoPrime") = true),
  decide (PySem.W.findIn K (.ref (He.ga K "NoPrime")) "__class__" = some (some (.builtin "object.__class__"))),
  decide (PySem.W.mroIn K (He.ga K "NoPrime") (.type "object") = some true),
  decide (PySem.W.subIn K (.ref (He.ga K "NoPrime")) (.ref (He.ga K "LeftError")) = some true)]
def ts5 (K : PySem.W.Frag) : List Bool := [decide (PySem.W.kitOne K (.ref (He.ga K "NoPrime")) (.type "ValueError") = some true),
  decide (PySem.W.kitOne K (.ref (He.ga K "NoPrime")) (.ref (He.ga K "NoDepth")) = some false),
  decide (PySem.W.kitOne K (.ref (He.ga K "NoPrime")) (.ref (He.ga K "NoFigures")) = some false),
  decide (PySem.W.kitOne K (.ref (He.ga K "NoPrime")) (.ref (He.ga K "NoFraction")) = some false),
  decide (PySem.W.kitOne K (.ref (He.ga K "NoPrime")) (.ref (He.ga K "NoPlace")) = some false),
  decide (PySem.W.kitOne K (.ref (He.ga K "NoPrime")) (.ref (He.ga K "NoPolynomial")) = some false),
  decide (PySem.W.kitOne K (.ref (He.ga K "NoPrime")) (.ref (He.ga K "NoPower")) = some false),
  decide (PySem.W.kitOne K (.ref (He.ga K "NoPrime")) (.ref (He.ga K "NoPrime")) = some true),
  decide (PySem.W.kitOne K (.ref (He.ga K "NoPrime")) (.ref (He.ga K "NoQuotient")) = some false),
  decide (PySem.W.kitOne K (.ref (He.ga K "NoPrime")) (.ref (He.ga K "NoRoot")) = some false),
  decide (PySem.W.kitOne K (.ref (He.ga K "NoPrime")) (.ref (He.ga K "NoSize")) = some false),
  decide (PySem.W.kitOne K (.ref (He.ga K "NoPrime")) (.ref (He.ga K "NoText")) = some false),
  decide (PySem.W.kitOne K (.ref (He.ga K "NoPrime")) (.ref (He.ga K "NotNear")) = some false),
  decide (PySem.W.kitOne K (.ref (He.ga K "NoPrime")) (.ref (He.ga K "TooFew")) = some false),
  decide (PySem.W.kitOne K (.ref (He.ga K "NoPrime")) (.ref (He.ga K "Unlike")) = some false),
  decide (PySem.W.findIn K (.ref (He.ga K "NoText")) "__getattribute__" = some (some (.builtin "BaseException.__getattribute__"))),
  decide (PySem.W.findIn K (.ref (He.ga K "NoText")) "__getattr__" = some none),
  decide (PySem.W.subIn K (.ref (He.ga K "NoText")) (.type "BaseException") = some true),
  decide (PySem.W.hasDictIn K (He.ga K "NoText") = true),
  decide (PySem.W.findIn K (.ref (He.ga K "NoText")) "__class__" = some (some (.builtin "object.__class__"))),
  decide (PySem.W.mroIn K (He.ga K "NoText") (.type "object") = some true),
  decide (PySem.W.subIn K (.ref (He.ga K "NoText")) (.ref (He.ga K "LeftError")) = some true),
  decide (PySem.W.kitOne K (.ref (He.ga K "NoText")) (.type "ValueError") = some true),
  decide (PySem.W.kitOne K (.ref (He.ga K "NoText")) (.ref (He.ga K "NoDepth")) = some false),
  decide (PySem.W.kitOne K (.ref (He.ga K "NoText")) (.ref (He.ga K "NoFigures")) = some false)]
def ts6 (K : PySem.W.Frag) : List Bool := [decide (PySem.W.kitOne K (.ref (He.ga K "NoText")) (.ref (He.ga K "NoFraction")) = some false),
  decide (PySem.W.kitOne K (.ref (He.ga K "NoText")) (.ref (He.ga K "NoPlace")) = some false),
  decide (PySem.W.kitOne K (.ref (He.ga K "NoText")) (.ref (He.ga K "NoPolynomial")) = some false),
  decide (PySem.W.kitOne K (.ref (He.ga K "NoText")) (.ref (He.ga K "NoPower")) = some false),
  decide (PySem.W.kitOne K (.ref (He.ga K "NoText")) (.ref (He.ga K "NoPrime")) = some false),
  decide (PySem.W.kitOne K (.ref (He.ga K "NoText")) (.ref (He.ga K "NoQuotient")) = some false),
  decide (PySem.W.kitOne K (.ref (He.ga K "NoText")) (.ref (He.ga K "NoRoot")) = some false),
  decide (PySem.W.kitOne K (.ref (He.ga K "NoText")) (.ref (He.ga K "NoSize")) = some false),
  decide (PySem.W.kitOne K (.ref (He.ga K "NoText")) (.ref (He.ga K "NoText")) = some true),
  decide (PySem.W.kitOne K (.ref (He.ga K "NoText")) (.ref (He.ga K "NotNear")) = some false),
  decide (PySem.W.kitOne K (.ref (He.ga K "NoText")) (.ref (He.ga K "TooFew")) = some false),
  decide (PySem.W.kitOne K (.ref (He.ga K "NoText")) (.ref (He.ga K "Unlike")) = some false),
  decide (PySem.W.specialIn K (.builtin "object.__class__") "__get__" = some (some (.builtin "getset_descriptor.__get__"))),
  decide (PySem.W.takesIn K (.builtin "object.__class__") = some true)]
def tsA (K : PySem.W.Frag) : List (List Bool) := [ts0 K, ts1 K, ts2 K, ts3 K, ts4 K, ts5 K, ts6 K]
def fn0 : List He.DefD := [⟨("is_whole", none), "is_whole", "is_whole", defArgs st_is_whole, defBody st_is_whole, defScope st_is_whole, [], []⟩,
  ⟨("is_prime", none), "is_prime", "is_prime", defArgs st_is_prime, defBody st_is_prime, defScope st_is_prime, [], []⟩,
  ⟨("are_figures", none), "are_figures", "are_figures", defArgs st_are_figures, defBody st_are_figures, defScope st_are_figures, [], []⟩,
  ⟨("left_number", none), "left_number", "left_number", defArgs st_left_number, defBody st_left_number, defScope st_left_number, [], []⟩,
  ⟨("number_of", none), "number_of", "number_of", defArgs st_number_of, defBody st_number_of, defScope st_number_of, [], []⟩,
  ⟨("read_left", none), "read_left", "read_left", defArgs st_read_left, defBody st_read_left, defScope st_read_left, [], []⟩,
  ⟨("_law_cell_at", none), "_law_cell_at", "_law_cell_at", defArgs st__law_cell_at, defBody st__law_cell_at, defScope st__law_cell_at, [], []⟩,
  ⟨("_law_primes", none), "_law_primes", "_law_primes", defArgs st__law_primes, defBody st__law_primes, defScope st__law_primes, [], []⟩,
  ⟨("_law_place", none), "_law_place", "_law_place", defArgs st__law_place, defBody st__law_place, defScope st__law_place, [], []⟩,
  ⟨("_law_text", none), "_law_text", "_law_text", defArgs st__law_text, defBody st__law_text, defScope st__law_text, [], []⟩,
  ⟨("_law_spoiled", none), "_law_spoiled", "_law_spoiled", defArgs st__law_spoiled, defBody st__law_spoiled, defScope st__law_spoiled, [], []⟩,
  ⟨("_law_is_number", none), "_law_is_number", "_law_is_number", defArgs st__law_is_number, defBody st__law_is_number, defScope st__law_is_number, [], []⟩,
  ⟨("_law_due", none), "_law_due", "_law_due", defArgs st__law_due, defBody st__law_due, defScope st__law_due, [], []⟩,
  ⟨("_law_others", none), "_law_others", "_law_others", defArgs st__law_others, defBody st__law_others, defScope st__law_others, [], []⟩,
  ⟨("_law_refused", none), "_law_refused", "_law_refused", defArgs st__law_refused, defBody st__law_refused, defScope st__law_refused, [], []⟩,
  ⟨("law", none), "law", "law", defArgs st_law, defBody st_law, defScope st_law, [], []⟩]
def fnA : List He.DefD := fn0
theorem facts {l : PySem.W.OpenLaw} {w : World} {K : PySem.W.Frag} {h : Heap} {mg : Str → Option Value} {fa : Addr} (X : K.In h) (G : h.Ns mainGlobals mg) (hfa : mg "law" = some (.ref fa)) (c : PH.SaysT tsA fnA K)
    : ∃ fd : FuncData, (∀ (s : Shared) (v : Value), BindsTo s fd ⟨[v], []⟩ [("_law_script", v)]) ∧ ∀ base : Heap, K.In base → base.Ns mainGlobals mg → FnOk l.prog w K mg base (L2N.CX l.prog w) 6 fa fd ["_law_script"] (spLaw K) := by
  have h0 := c.chunk (l := ts0 K) 0 rfl
  have h1 := c.chunk (l := ts1 K) 1 rfl
  have h2 := c.chunk (l := ts2 K) 2 rfl
  have h3 := c.chunk (l := ts3 K) 3 rfl
  have h4 := c.chunk (l := ts4 K) 4 rfl
  have h5 := c.chunk (l := ts5 K) 5 rfl
  have h6 := c.chunk (l := ts6 K) 6 rfl
  obtain ⟨oc0, od0, kV0, dc0, pm0, an0, cd0, ct0, sl0, l0, c0, k0⟩ := PH.lok (x := "is_whole") (q := "is_whole") (st := st_is_whole) (f := He.ga K "is_whole") (c.def_ 0 rfl)
  obtain ⟨oc1, od1, kV1, dc1, pm1, an1, cd1, ct1, sl1, l1, c1, k1⟩ := PH.lok (x := "is_prime") (q := "is_prime") (st := st_is_prime) (f := He.ga K "is_prime") (c.def_ 1 rfl)
  obtain ⟨oc2, od2, kV2, dc2, pm2, an2, cd2, ct2, sl2, l2, c2, k2⟩ := PH.lok (x := "are_figures") (q := "are_figures") (st := st_are_figures) (f := He.ga K "are_figures") (c.def_ 2 rfl)
  obtain ⟨oc3, od3, kV3, dc3, pm3, an3, cd3, ct3, sl3, l3, c3, k3⟩ := PH.lok (x := "left_number") (q := "left_number") (st := st_left_number) (f := He.ga K "left_number") (c.def_ 3 rfl)
  obtain ⟨oc4, od4, kV4, dc4, pm4, an4, cd4, ct4, sl4, l4, c4, k4⟩ := PH.lok (x := "number_of") (q := "number_of") (st := st_number_of) (f := He.ga K "number_of") (c.def_ 4 rfl)
  obtain ⟨oc5, od5, kV5, dc5, pm5, an5, cd5, ct5, sl5, l5, c5, k5⟩ := PH.lok (x := "read_left") (q := "read_left") (st := st_read_left) (f := He.ga K "read_left") (c.def_ 5 rfl)
  obtain ⟨oc6, od6, kV6, dc6, pm6, an6, cd6, ct6, sl6, l6, c6, k6⟩ := PH.lok (x := "_law_cell_at") (q := "_law_cell_at") (st := st__law_cell_at) (f := He.ga K "_law_cell_at") (c.def_ 6 rfl)
  obtain ⟨oc7, od7, kV7, dc7, pm7, an7, cd7, ct7, sl7, l7, c7, k7⟩ := PH.lok (x := "_law_primes") (q := "_law_primes") (st := st__law_primes) (f := He.ga K "_law_primes") (c.def_ 7 rfl)
  obtain ⟨oc8, od8, kV8, dc8, pm8, an8, cd8, ct8, sl8, l8, c8, k8⟩ := PH.lok (x := "_law_place") (q := "_law_place") (st := st__law_place) (f := He.ga K "_law_place") (c.def_ 8 rfl)
  obtain ⟨oc9, od9, kV9, dc9, pm9, an9, cd9, ct9, sl9, l9, c9, k9⟩ := PH.lok (x := "_law_text") (q := "_law_text") (st := st__law_text) (f := He.ga K "_law_text") (c.def_ 9 rfl)
  obtain ⟨oc10, od10, kV10, dc10, pm10, an10, cd10, ct10, sl10, l10, c10, k10⟩ := PH.lok (x := "_law_spoiled") (q := "_law_spoiled") (st := st__law_spoiled) (f := He.ga K "_law_spoiled") (c.def_ 10 rfl)
  obtain ⟨oc11, od11, kV11, dc11, pm11, an11, cd11, ct11, sl11, l11, c11, k11⟩ := PH.lok (x := "_law_is_number") (q := "_law_is_number") (st := st__law_is_number) (f := He.ga K "_law_is_number") (c.def_ 11 rfl)
  obtain ⟨oc12, od12, kV12, dc12, pm12, an12, cd12, ct12, sl12, l12, c12, k12⟩ := PH.lok (x := "_law_due") (q := "_law_due") (st := st__law_due) (f := He.ga K "_law_due") (c.def_ 12 rfl)
  obtain ⟨oc13, od13, kV13, dc13, pm13, an13, cd13, ct13, sl13, l13, c13, k13⟩ := PH.lok (x := "_law_others") (q := "_law_others") (st := st__law_others) (f := He.ga K "_law_others") (c.def_ 13 rfl)
  obtain ⟨oc14, od14, kV14, dc14, pm14, an14, cd14, ct14, sl14, l14, c14, k14⟩ := PH.lok (x := "_law_refused") (q := "_law_refused") (st := st__law_refused) (f := He.ga K "_law_refused") (c.def_ 14 rfl)
  obtain ⟨oc15, od15, kV15, dc15, pm15, an15, cd15, ct15, sl15, l15, c15, k15⟩ := PH.lok (x := "law") (q := "law") (st := st_law) (f := He.ga K "law") (c.def_ 15 rfl)
  obtain ⟨t0, g0⟩ := PH.strB_ok (PH.fact h1 3 rfl)
  obtain ⟨t1, g1⟩ := PH.intB_ok (PH.fact h1 4 rfl)
  obtain ⟨t2, g2⟩ := PH.intB_ok (PH.fact h1 5 rfl)
  exact all_mk (f0 := (He.ga K "is_whole")) (f1 := (He.ga K "is_prime")) (f2 := (He.ga K "are_figures")) (f3 := (He.ga K "left_number")) (f4 := (He.ga K "number_of")) (f5 := (He.ga K "read_left")) (f6 := (He.ga K "_law_cell_at")) (f7 := (He.ga K "_law_primes")) (f8 := (He.ga K "_law_place")) (f9 := (He.ga K "_law_text")) (f10 := (He.ga K "_law_spoiled")) (f11 := (He.ga K "_law_is_number")) (f12 := (He.ga K "_law_due")) (f13 := (He.ga K "_law_others")) (f14 := (He.ga K "_law_refused")) (f15 := (He.ga K "law")) (C0 := (He.ga K "NoFigures")) (C1 := (He.ga K "NoPlace")) (C2 := (He.ga K "NoPrime")) (C3 := (He.ga K "NoText")) (V0 := (He.ga K "LeftError")) (U0 := (He.ga K "LeftError")) (U1 := (He.ga K "NoDepth")) (U2 := (He.ga K "NoFigures")) (U3 := (He.ga K "NoFraction")) (U4 := (He.ga K "NoPlace")) (U5 := (He.ga K "NoPolynomial")) (U6 := (He.ga K "NoPower")) (U7 := (He.ga K "NoPrime")) (U8 := (He.ga K "NoQuotient")) (U9 := (He.ga K "NoRoot")) (U10 := (He.ga K "NoSize")) (U11 := (He.ga K "NoText")) (U12 := (He.ga K "NotNear")) (U13 := (He.ga K "TooFew")) (U14 := (He.ga K "Unlike")) X G hfa (of_decide_eq_true (PH.fact h0 0 rfl)) l0 c0 k0 (of_decide_eq_true (PH.fact h0 1 rfl)) l1 c1 k1 (of_decide_eq_true (PH.fact h0 2 rfl)) l2 c2 k2 (of_decide_eq_true (PH.fact h0 3 rfl)) l3 c3 k3 (of_decide_eq_true (PH.fact h0 4 rfl)) l4 c4 k4 (of_decide_eq_true (PH.fact h0 5 rfl)) l5 c5 k5 (of_decide_eq_true (PH.fact h0 6 rfl)) l6 c6 k6 (of_decide_eq_true (PH.fact h0 7 rfl)) l7 c7 k7 (of_decide_eq_true (PH.fact h0 8 rfl)) l8 c8 k8 (of_decide_eq_true (PH.fact h0 9 rfl)) l9 c9 k9 (of_decide_eq_true (PH.fact h0 10 rfl)) l10 c10 k10 (of_decide_eq_true (PH.fact h0 11 rfl)) l11 c11 k11 (of_decide_eq_true (PH.fact h0 12 rfl)) l12 c12 k12 (of_decide_eq_true (PH.fact h0 13 rfl)) l13 c13 k13 (of_decide_eq_true (PH.fact h0 14 rfl)) l14 c14 k14 (of_decide_eq_true (PH.fact h0 15 rfl)) l15 c15 k15 (of_decide_eq_true (PH.fact h0 16 rfl)) (of_decide_eq_true (PH.fact h0 17 rfl)) (of_decide_eq_true (PH.fact h0 18 rfl)) (of_decide_eq_true (PH.fact h0 19 rfl)) (of_decide_eq_true (PH.fact h0 20 rfl)) (of_decide_eq_true (PH.fact h0 21 rfl)) (of_decide_eq_true (PH.fact h0 22 rfl)) (of_decide_eq_true (PH.fact h0 23 rfl)) (of_decide_eq_true (PH.fact h0 24 rfl)) (of_decide_eq_true (PH.fact h1 0 rfl)) (of_decide_eq_true (PH.fact h1 1 rfl)) (of_decide_eq_true (PH.fact h1 2 rfl)) g0 g1 g2 (of_decide_eq_true (PH.fact h1 6 rfl)) (of_decide_eq_true (PH.fact h1 7 rfl)) (of_decide_eq_true (PH.fact h1 8 rfl)) (of_decide_eq_true (PH.fact h1 9 rfl)) (of_decide_eq_true (PH.fact h1 10 rfl)) (of_decide_eq_true (PH.fact h1 11 rfl)) (of_decide_eq_true (PH.fact h1 12 rfl)) (of_decide_eq_true (PH.fact h1 13 rfl)) (of_decide_eq_true (PH.fact h1 14 rfl)) (of_decide_eq_true (PH.fact h1 15 rfl)) (of_decide_eq_true (PH.fact h1 16 rfl)) (of_decide_eq_true (PH.fact h1 17 rfl)) (of_decide_eq_true (PH.fact h1 18 rfl)) (of_decide_eq_true (PH.fact h1 19 rfl)) (of_decide_eq_true (PH.fact h1 20 rfl)) (of_decide_eq_true (PH.fact h1 21 rfl)) (of_decide_eq_true (PH.fact h1 22 rfl)) (of_decide_eq_true (PH.fact h1 23 rfl)) (of_decide_eq_true (PH.fact h1 24 rfl)) (of_decide_eq_true (PH.fact h2 0 rfl)) (of_decide_eq_true (PH.fact h2 1 rfl)) (of_decide_eq_true (PH.fact h2 2 rfl)) (of_decide_eq_true (PH.fact h2 3 rfl)) (of_decide_eq_true (PH.fact h2 4 rfl)) (of_decide_eq_true (PH.fact h2 5 rfl)) (of_decide_eq_true (PH.fact h2 6 rfl)) (of_decide_eq_true (PH.fact h2 7 rfl)) (of_decide_eq_true (PH.fact h2 8 rfl)) (of_decide_eq_true (PH.fact h2 9 rfl)) (of_decide_eq_true (PH.fact h2 10 rfl)) (of_decide_eq_true (PH.fact h2 11 rfl)) (of_decide_eq_true (PH.fact h2 12 rfl)) (of_decide_eq_true (PH.fact h2 13 rfl)) (of_decide_eq_true (PH.fact h2 14 rfl)) (of_decide_eq_true (PH.fact h2 15 rfl)) (of_decide_eq_true (PH.fact h2 16 rfl)) (of_decide_eq_true (PH.fact h2 17 rfl)) (of_decide_eq_true (PH.fact h2 18 rfl)) (of_decide_eq_true (PH.fact h2 19 rfl)) (of_decide_eq_true (PH.fact h2 20 rfl)) (of_decide_eq_true (PH.fact h2 21 rfl)) (of_decide_eq_true (PH.fact h2 22 rfl)) (of_decide_eq_true (PH.fact h2 23 rfl)) (of_decide_eq_true (PH.fact h2 24 rfl)) (of_decide_eq_true (PH.fact h3 0 rfl)) (of_decide_eq_true (PH.fact h3 1 rfl)) (of_decide_eq_true (PH.fact h3 2 rfl)) (of_decide_eq_true (PH.fact h3 3 rfl)) (of_decide_eq_true (PH.fact h3 4 rfl)) (of_decide_eq_true (PH.fact h3 5 rfl)) (of_decide_eq_true (PH.fact h3 6 rfl)) (of_decide_eq_true (PH.fact h3 7 rfl)) (of_decide_eq_true (PH.fact h3 8 rfl)) (of_decide_eq_true (PH.fact h3 9 rfl)) (of_decide_eq_true (PH.fact h3 10 rfl)) (of_decide_eq_true (PH.fact h3 11 rfl)) (of_decide_eq_true (PH.fact h3 12 rfl)) (of_decide_eq_true (PH.fact h3 13 rfl)) (of_decide_eq_true (PH.fact h3 14 rfl)) (of_decide_eq_true (PH.fact h3 15 rfl)) (of_decide_eq_true (PH.fact h3 16 rfl)) (of_decide_eq_true (PH.fact h3 17 rfl)) (of_decide_eq_true (PH.fact h3 18 rfl)) (of_decide_eq_true (PH.fact h3 19 rfl)) (of_decide_eq_true (PH.fact h3 20 rfl)) (of_decide_eq_true (PH.fact h3 21 rfl)) (of_decide_eq_true (PH.fact h3 22 rfl)) (of_decide_eq_true (PH.fact h3 23 rfl)) (of_decide_eq_true (PH.fact h3 24 rfl)) (of_decide_eq_true (PH.fact h4 0 rfl)) (of_decide_eq_true (PH.fact h4 1 rfl)) (of_decide_eq_true (PH.fact h4 2 rfl)) (of_decide_eq_true (PH.fact h4 3 rfl)) (of_decide_eq_true (PH.fact h4 4 rfl)) (of_decide_eq_true (PH.fact h4 5 rfl)) (of_decide_eq_true (PH.fact h4 6 rfl)) (of_decide_eq_true (PH.fact h4 7 rfl)) (of_decide_eq_true (PH.fact h4 8 rfl)) (of_decide_eq_true (PH.fact h4 9 rfl)) (of_decide_eq_true (PH.fact h4 10 rfl)) (of_decide_eq_true (PH.fact h4 11 rfl)) (of_decide_eq_true (PH.fact h4 12 rfl)) (of_decide_eq_true (PH.fact h4 13 rfl)) (of_decide_eq_true (PH.fact h4 14 rfl)) (of_decide_eq_true (PH.fact h4 15 rfl)) (of_decide_eq_true (PH.fact h4 16 rfl)) (of_decide_eq_true (PH.fact h4 17 rfl)) (of_decide_eq_true (PH.fact h4 18 rfl)) (of_decide_eq_true (PH.fact h4 19 rfl)) (of_decide_eq_true (PH.fact h4 20 rfl)) (of_decide_eq_true (PH.fact h4 21 rfl)) (of_decide_eq_true (PH.fact h4 22 rfl)) (of_decide_eq_true (PH.fact h4 23 rfl)) (of_decide_eq_true (PH.fact h4 24 rfl)) (of_decide_eq_true (PH.fact h5 0 rfl)) (of_decide_eq_true (PH.fact h5 1 rfl)) (of_decide_eq_true (PH.fact h5 2 rfl)) (of_decide_eq_true (PH.fact h5 3 rfl)) (of_decide_eq_true (PH.fact h5 4 rfl)) (of_decide_eq_true (PH.fact h5 5 rfl)) (of_decide_eq_true (PH.fact h5 6 rfl)) (of_decide_eq_true (PH.fact h5 7 rfl)) (of_decide_eq_true (PH.fact h5 8 rfl)) (of_decide_eq_true (PH.fact h5 9 rfl)) (of_decide_eq_true (PH.fact h5 10 rfl)) (of_decide_eq_true (PH.fact h5 11 rfl)) (of_decide_eq_true (PH.fact h5 12 rfl)) (of_decide_eq_true (PH.fact h5 13 rfl)) (of_decide_eq_true (PH.fact h5 14 rfl)) (of_decide_eq_true (PH.fact h5 15 rfl)) (of_decide_eq_true (PH.fact h5 16 rfl)) (of_decide_eq_true (PH.fact h5 17 rfl)) (of_decide_eq_true (PH.fact h5 18 rfl)) (of_decide_eq_true (PH.fact h5 19 rfl)) (of_decide_eq_true (PH.fact h5 20 rfl)) (of_decide_eq_true (PH.fact h5 21 rfl)) (of_decide_eq_true (PH.fact h5 22 rfl)) (of_decide_eq_true (PH.fact h5 23 rfl)) (of_decide_eq_true (PH.fact h5 24 rfl)) (of_decide_eq_true (PH.fact h6 0 rfl)) (of_decide_eq_true (PH.fact h6 1 rfl)) (of_decide_eq_true (PH.fact h6 2 rfl)) (of_decide_eq_true (PH.fact h6 3 rfl)) (of_decide_eq_true (PH.fact h6 4 rfl)) (of_decide_eq_true (PH.fact h6 5 rfl)) (of_decide_eq_true (PH.fact h6 6 rfl)) (of_decide_eq_true (PH.fact h6 7 rfl)) (of_decide_eq_true (PH.fact h6 8 rfl)) (of_decide_eq_true (PH.fact h6 9 rfl)) (of_decide_eq_true (PH.fact h6 10 rfl)) (of_decide_eq_true (PH.fact h6 11 rfl)) (of_decide_eq_true (PH.fact h6 12 rfl)) (of_decide_eq_true (PH.fact h6 13 rfl))
def lo0 : List Str := ["LeftError", "NoPrime", "NoFraction", "NoPlace", "NoFigures", "NoText", "Unlike", "NoQuotient", "NoPower", "TooFew", "NoSize", "NoPolynomial", "NoDepth", "NoRoot", "NotNear", "MOST_PRIME", "is_whole", "is_prime", "are_figures", "left_number", "FIGURES", "MOST_FIGURES", "number_of", "read_left", "_law_cell_at", "_law_primes", "_law_place", "_law_text", "_law_spoiled", "_law_is_number"]
def lo1 : List Str := ["_law_due", "_law_others", "_law_refused"]
def loA : List Str := lo0 ++ lo1
abbrev RR : PySem.W.OpenRow := PySem.W.OpenLaw.row PySem.Challenge.rw_leftnumbers_k18_texts_refused
theorem run (w : World) : HandSHeadRun.RunEq RR (PySem.W.view RR.prog [38]) (PH.hookT 1 tsA fnA) (PH.obT 1 tsA fnA) 20000 loA w := by
  intro os
  kernel_rfl
end K18
open PySem PySem.W PySem.Calls PyProof.Rows
set_option maxHeartbeats 0 in
theorem PySem.Challenge.cw_leftnumbers_k18_texts_refused_holds : PySem.Challenge.rw_leftnumbers_k18_texts_refused.Holds := by
  w_on; o_law
  refine HandSHeadRun.head_any (r := OpenLaw.row PySem.Challenge.rw_leftnumbers_k18_texts_refused) (q := view (OpenLaw.row PySem.Challenge.rw_leftnumbers_k18_texts_refused).prog [38]) (H := PH.hookT 1 K18.tsA K18.fnA) (ob := PH.obT 1 K18.tsA K18.fnA) (M := 20000) (loose := K18.loA) (d := HandSHeadRun.topDef (OpenLaw.row PySem.Challenge.rw_leftnumbers_k18_texts_refused).prog 38) (kwd := []) (PH.obT_eq (n := 1)) (by kernel_rfl) (fun s => by kernel_rfl) K18.run (by kernel_rfl) (by kernel_rfl) (by kernel_rfl) (by rfl) (by first | assumption | decide +kernel) (by decide +kernel) ⟨rfl, rfl, rfl, rfl, rfl, by decide +kernel⟩ ?hw ?hc
  case hw => w_witness2
  case hc =>
    refine PH.walk_ofEB (l := PySem.Challenge.rw_leftnumbers_k18_texts_refused) (n := 63) (k := 6) (x := "_law_script") (CX := fun w => L2N.CX PySem.Challenge.rw_leftnumbers_k18_texts_refused.prog w) rfl (by decide) (by kernel_rfl) ⟨rfl, by decide, by decide⟩ ?F (fun _ _ _ _ _ h => PL.cx_none h)
    intro w mg fa h Y G hmg0
    obtain ⟨K, KX, c⟩ := Y
    have hmg : mg ("law" : PySem.Str) = some (.ref fa) := by
      have e : (HandSHeadRun.topDef (OpenLaw.row PySem.Challenge.rw_leftnumbers_k18_texts_refused).prog 38).name = ("law" : PySem.Str) := by kernel_rfl
      rw [← e]
      exact hmg0
    obtain ⟨fd, hb, hF⟩ := K18.facts (l := PySem.Challenge.rw_leftnumbers_k18_texts_refused) (w := w) KX G hmg c
    exact ⟨K, fd, PL.spLaw K, KX, hb, fun H a ns hl hB hO hS => ⟨a, ns, rfl, hS, hO, hl, hB, fun _ _ e => e⟩, hF⟩
