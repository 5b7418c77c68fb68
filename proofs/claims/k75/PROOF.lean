import PyProof.Rows.All
import Wide.All
import OpenK.AllK
import Wide.FinOn
import HandS.ForMost
import HandS.ForExc
import HandS.Wide
import HandS.WideBits
import HandS.WideMore
import HandS.IsInst
import HandS.CallSlots
import HandS.Rev
import HandS.TupAny
import HandS.Flow
import HandS.Defaults
import HandS.EndBits
import HandS.HotCalls
import HandS.ExcIs
import HandS.SuiteRaise
import PyProof.LongRange
import HandS.Deep
import HandS.Flt
import HandS.TryOnly
import HandS.Comp
import HandS.Conv
import HandS.SortInts
import HandS.TupLe
import KE.SortData
import KE.DataCmp
import HandS.TupMul
import HandS.Text
import HandS.StrMore
import HandS.TryElse
import KE.KStateDown
import HandS.Head0
import HandS.Head1
import HandS.Head2
import HandS.HeadEnd
import HandS.HeadHook1
import HandS.HeadHook2
import HandS.DictTup
import KE.KDictSum
import KE.KDictCopyH
import HandS.TupLen
import HandS.DictEq
import PySem.Challenge.RW_leftnumbers_k75_whole_roots_of_the_tree
set_option Elab.async false
set_option linter.all false
set_option maxRecDepth 100000
set_option autoImplicit false
namespace PL
open PySem PySem.Spec L2
open PyProof.Rows hiding St
/-- plain values -/
inductive PV where
  | non | bl (b : Bool) | int (i : Int) | str (s : Str)
  | tup (l : List PV) | lst (l : List PV) | frz (l : List PV) | dct
  | dt (l : List ((Int × Int) × Int)) | obj (C : Addr) (ns : List Str) (fs : List PV)
/-- what an evaluation comes to -/
inductive R (α : Type) where
  | ok (a : α) | exc (c : Str) | stuck
def R.bind {α β : Type} (x : R α) (k : α → R β) : R β := match x with
  | .ok a => k a | .exc c => .exc c | .stuck => .stuck
theorem R.bind_ok {α β : Type} (a : α) (k : α → R β) : (R.ok a).bind k = k a := rfl
/-- a slot: nothing yet; a value that may be shared; a list that this def made and nobody else holds -/
inductive Slot where
  | un | val (p : PV) | own (l : List PV) | ex (a : Addr) | dd (a : Addr) (l : List ((Int × Int) × Int))
abbrev Rho := List Slot
/-- a written tuple, not a pair -/
def KT (K : PySem.W.Frag) (a : Addr) (xs : List V) : Prop :=
  ∃ (o : Obj) (its : Array Value) (n : Nat), K.lookup a = some o ∧ o.cls = .type "tuple" ∧ o.data = .seq its n ∧ its.size ≤ sizeLine ∧ Vals xs its.toList ∧ xs.length ≠ 2
theorem KT.sq {K : PySem.W.Frag} {H : Hp} {a : Addr} {xs : List V} (h : KT K a xs) : SqT K H a xs := by
  obtain ⟨o, its, n, h1, h2, h3, h4, h5, _⟩ := h
  exact .inr ⟨o, its, n, h1, h2, h3, h4, h5⟩
/-- a dict by pairs of whole numbers, as the heap has it -/
def encD (l : List ((Int × Int) × Int)) : List (List L2.Key × V) := l.map fun e => ([.inl e.1.1, .inl e.1.2], V.int e.2)
/-- a class of one's own whose instances are plain: what is known of it -/
structure ObjC (K : PySem.W.Frag) (C : Addr) : Prop where
  cl : Cls K C
  ha : PySem.W.findIn K (.ref C) "__class__" = some (some (.builtin "object.__class__"))
  hn : PySem.W.specialIn K (.builtin "object.__class__") "__get__" = some (some (.builtin "getset_descriptor.__get__"))
  ht : PySem.W.takesIn K (.builtin "object.__class__") = some true
  hm : PySem.W.mroIn K C (.type "object") = some true
  kit : ∀ n ∈ (["int", "bool", "str", "tuple", "list", "dict"] : List String), PySem.W.kitOne K (.ref C) (.type n) = some false
  na : ∀ f ∈ (["part", "one", "other", "n"] : List Str), PySem.W.findIn K (.ref C) f = some none
mutual
inductive Rep (K : PySem.W.Frag) (H : Hp) (O : Addr → Prop) : V → PV → Prop
  | non : Rep K H O .non .non
  | bl (b : Bool) : Rep K H O (.bl b) (.bl b)
  | int (i : Int) : Rep K H O (.int i) (.int i)
  | str (x : Str) : Rep K H O (.str x) (.str x)
  | lst {a : Addr} {xs : List V} {ps : List PV} : H a = some (.lst xs) → ¬ O a → Reps K H O xs ps → Rep K H O (.ref a) (.lst ps)
  | tup {a : Addr} {xs : List V} {ps : List PV} : (H a = some (.tup xs) ∧ ¬ O a ∨ KT K a xs) → Reps K H O xs ps → Rep K H O (.ref a) (.tup ps)
  | frz {a : Addr} {ns : List Int} : ((∃ o, H a = some (.frz o (.lst (ns.map V.int)))) ∧ ¬ O a ∨ ((∀ H', SqL K H' a (ns.map V.int)))) → Rep K H O (.ref a) (.frz (ns.map PV.int))
  | dct {a : Addr} {kvs : List (L2.Key × V)} : H a = some (.dK kvs) → ¬ O a → Rep K H O (.ref a) .dct
  | dt {a : Addr} {l : List ((Int × Int) × Int)} : H a = some (.dT (encD l)) → ¬ O a → Rep K H O (.ref a) (.dt l)
  | obj {a C dx : Addr} {fs : List (Str × V)} {ns : List Str} {ps : List PV} : H a = some (.ins C dx fs) → ¬ O a → fs.map (·.1) = ns → ObjC K C → Reps K H O (fs.map (·.2)) ps → Rep K H O (.ref a) (.obj C ns ps)
inductive Reps (K : PySem.W.Frag) (H : Hp) (O : Addr → Prop) : List V → List PV → Prop
  | nil : Reps K H O [] []
  | cons {v : V} {vs : List V} {p : PV} {ps : List PV} : Rep K H O v p → Reps K H O vs ps → Reps K H O (v :: vs) (p :: ps)
end
section
variable {K : PySem.W.Frag} {H H' : Hp} {O O' : Addr → Prop}
mutual
theorem Rep.mono (hk : ∀ a o, H a = some o → ¬ O a → H' a = some o ∧ ¬ O' a) : ∀ {v : V} {p : PV}, Rep K H O v p → Rep K H' O' v p
  | _, _, .non => .non
  | _, _, .bl b => .bl b
  | _, _, .int i => .int i
  | _, _, .str x => .str x
  | _, _, .lst h n r => .lst (hk _ _ h n).1 (hk _ _ h n).2 (Reps.mono hk r)
  | _, _, .tup (.inl ⟨h, n⟩) r => .tup (.inl ⟨(hk _ _ h n).1, (hk _ _ h n).2⟩) (Reps.mono hk r)
  | _, _, .tup (.inr h) r => .tup (.inr h) (Reps.mono hk r)
  | _, _, .frz (.inl ⟨⟨o, h⟩, n⟩) => .frz (.inl ⟨⟨o, (hk _ _ h n).1⟩, (hk _ _ h n).2⟩)
  | _, _, .frz (.inr h) => .frz (.inr h)
  | _, _, .dct h n => .dct (hk _ _ h n).1 (hk _ _ h n).2
  | _, _, .dt h n => .dt (hk _ _ h n).1 (hk _ _ h n).2
  | _, _, .obj h n e c r => .obj (hk _ _ h n).1 (hk _ _ h n).2 e c (Reps.mono hk r)
theorem Reps.mono (hk : ∀ a o, H a = some o → ¬ O a → H' a = some o ∧ ¬ O' a) : ∀ {v : List V} {p : List PV}, Reps K H O v p → Reps K H' O' v p
  | _, _, .nil => .nil
  | _, _, .cons h r => .cons (Rep.mono hk h) (Reps.mono hk r)
end
theorem Rep.same {v : V} {p : PV} (s : Same H H') (r : Rep K H O v p) : Rep K H' O v p := r.mono fun a o h n => ⟨s a o h, n⟩
theorem Reps.same {v : List V} {p : List PV} (s : Same H H') (r : Reps K H O v p) : Reps K H' O v p := r.mono fun a o h n => ⟨s a o h, n⟩
theorem Rep.less {v : V} {p : PV} (s : ∀ a, O' a → O a) (r : Rep K H O v p) : Rep K H O' v p := r.mono fun a o h n => ⟨h, fun z => n (s a z)⟩
theorem Reps.less {v : List V} {p : List PV} (s : ∀ a, O' a → O a) (r : Reps K H O v p) : Reps K H O' v p := r.mono fun a o h n => ⟨h, fun z => n (s a z)⟩
theorem Reps.length : ∀ {vs : List V} {ps : List PV}, Reps K H O vs ps → vs.length = ps.length
  | _, _, .nil => rfl
  | _, _, .cons _ r => by rw [List.length_cons, List.length_cons, Reps.length r]
theorem Reps.get : ∀ {vs : List V} {ps : List PV} {i : Nat} {p : PV}, Reps K H O vs ps → ps[i]? = some p → ∃ v, vs[i]? = some v ∧ Rep K H O v p
  | _, _, 0, _, .cons h _, e => ⟨_, rfl, by simp at e; exact e ▸ h⟩
  | _, _, i + 1, p, .cons _ r, e => by
    obtain ⟨v, h1, h2⟩ := Reps.get (i := i) (p := p) r (by simpa using e)
    exact ⟨v, by simpa using h1, h2⟩
theorem Reps.get' : ∀ {vs : List V} {ps : List PV} {i : Nat} {v : V}, Reps K H O vs ps → vs[i]? = some v → ∃ p, ps[i]? = some p ∧ Rep K H O v p
  | _, _, 0, _, .cons h _, e => ⟨_, rfl, by simp at e; exact e ▸ h⟩
  | _, _, i + 1, v, .cons _ r, e => by
    obtain ⟨p, h1, h2⟩ := Reps.get' (i := i) (v := v) r (by simpa using e)
    exact ⟨p, by simpa using h1, h2⟩
theorem Reps.append : ∀ {vs ws : List V} {ps qs : List PV}, Reps K H O vs ps → Reps K H O ws qs → Reps K H O (vs ++ ws) (ps ++ qs)
  | _, _, _, _, .nil, s => s
  | _, _, _, _, .cons h r, s => .cons h (Reps.append r s)
theorem Reps.take : ∀ {vs : List V} {ps : List PV} (n : Nat), Reps K H O vs ps → Reps K H O (vs.take n) (ps.take n)
  | _, _, 0, _ => .nil
  | _, _, _ + 1, .nil => .nil
  | _, _, n + 1, .cons h r => .cons h (Reps.take n r)
theorem Reps.drop : ∀ {vs : List V} {ps : List PV} (n : Nat), Reps K H O vs ps → Reps K H O (vs.drop n) (ps.drop n)
  | _, _, 0, r => r
  | _, _, _ + 1, .nil => .nil
  | _, _, n + 1, .cons _ r => Reps.drop n r
theorem Reps.set {v : V} {p : PV} (h : Rep K H O v p) : ∀ {vs : List V} {ps : List PV} (n : Nat), Reps K H O vs ps → Reps K H O (vs.set n v) (ps.set n p)
  | _, _, _, .nil => .nil
  | _, _, 0, .cons _ r => .cons h r
  | _, _, n + 1, .cons q r => .cons q (Reps.set h n r)
theorem Reps.reverse {vs : List V} {ps : List PV} (h : Reps K H O vs ps) : Reps K H O vs.reverse ps.reverse := by
  induction vs generalizing ps with
  | nil => cases h; exact .nil
  | cons v vs ih => cases h with
    | cons a r => rw [List.reverse_cons, List.reverse_cons]; exact (ih r).append (.cons a .nil)
theorem Reps.dropLast {vs : List V} {ps : List PV} (h : Reps K H O vs ps) : Reps K H O vs.dropLast ps.dropLast := by
  rw [List.dropLast_eq_take, List.dropLast_eq_take, h.length]; exact h.take _
theorem Reps.ints : ∀ {ns : List Int} {vs : List V}, Reps K H O vs (ns.map PV.int) → vs = ns.map V.int
  | [], _, .nil => rfl
  | n :: ns, _, .cons h r => by cases h; rw [Reps.ints r]; rfl
theorem Reps.ofInts : ∀ (ns : List Int), Reps K H O (ns.map V.int) (ns.map PV.int)
  | [] => .nil
  | n :: ns => .cons (.int n) (Reps.ofInts ns)
theorem Reps.bls : ∀ {ns : List Bool} {vs : List V}, Reps K H O vs (ns.map PV.bl) → vs = ns.map V.bl
  | [], _, .nil => rfl
  | n :: ns, _, .cons h r => by cases h; rw [Reps.bls r]; rfl
end
/-- the addresses that nobody else may hold: those from outside, those of the slots -/
def OO (O0 : Addr → Prop) (σ : St) (ρ : Rho) : Addr → Prop := fun a => O0 a ∨ ∃ (i : Nat) (ps : List PV), ρ[i]? = some (.own ps) ∧ σ[i]? = some (some (.ref a))
structure StR (K : PySem.W.Frag) (H0 : Hp) (O0 : Addr → Prop) (H : Hp) (σ : St) (ρ : Rho) : Prop where
  len : σ.length = ρ.length
  same : Same H0 H
  all0 : ∀ a, O0 a → H a ≠ none
  own : ∀ (i : Nat) (ps : List PV), ρ[i]? = some (.own ps) → ∃ (a : Addr) (vs : List V), σ[i]? = some (some (.ref a)) ∧ H a = some (.lst vs) ∧ H0 a = none ∧ ¬ O0 a ∧ Reps K H (OO O0 σ ρ) vs ps
  dis : ∀ (i j : Nat) (a : Addr) (ps qs : List PV), ρ[i]? = some (.own ps) → ρ[j]? = some (.own qs) → σ[i]? = some (some (.ref a)) → σ[j]? = some (some (.ref a)) → i = j
  val : ∀ (i : Nat) (p : PV), ρ[i]? = some (.val p) → ∃ (v : V), σ[i]? = some (some v) ∧ Rep K H (OO O0 σ ρ) v p
  exs : ∀ (i : Nat) (a : Addr), ρ[i]? = some (.ex a) → σ[i]? = some (some (.ref a))
  dds : ∀ (i : Nat) (a : Addr) (l : List ((Int × Int) × Int)), ρ[i]? = some (.dd a l) → σ[i]? = some (some (.ref a)) ∧ H a = some (.dT (encD l)) ∧ O0 a ∧ H0 a = none ∧ (∀ (j : Nat) (l' : List ((Int × Int) × Int)), ρ[j]? = some (.dd a l') → j = i) ∧ ∀ (b : Addr) (xs : List V), O0 b → H b ≠ some (.tup xs)
def DdOk (H0 : Hp) (O0 : Addr → Prop) (H : Hp) (σ : St) (ρ : Rho) : Prop := ∀ (i : Nat) (a : Addr) (l : List ((Int × Int) × Int)), ρ[i]? = some (.dd a l) → σ[i]? = some (some (.ref a)) ∧ H a = some (.dT (encD l)) ∧ O0 a ∧ H0 a = none ∧ (∀ (j : Nat) (l' : List ((Int × Int) × Int)), ρ[j]? = some (.dd a l') → j = i) ∧ ∀ (b : Addr) (xs : List V), O0 b → H b ≠ some (.tup xs)
theorem dds_later {H0 H H' : Hp} {O0 : Addr → Prop} {σ : St} {ρ : Rho} (h : DdOk H0 O0 H σ ρ) (k : ∀ a l, H a = some (.dT l) → H' a = some (.dT l)) (kt : ∀ b xs, O0 b → H' b = some (.tup xs) → H b = some (.tup xs)) : DdOk H0 O0 H' σ ρ := fun i a l e => by
  obtain ⟨e1, e2, e3, e4, e5, e6⟩ := h i a l e
  exact ⟨e1, k _ _ e2, e3, e4, e5, fun b xs o z => e6 b xs o (kt b xs o z)⟩
theorem tup_same {O0 : Addr → Prop} {H H' : Hp} (h0 : ∀ a, O0 a → H a ≠ none) (s : Same H H') : ∀ b xs, O0 b → H' b = some (.tup xs) → H b = some (.tup xs) := fun b xs o z => by
  cases q : H b with
  | none => exact absurd q (h0 b o)
  | some u => rw [s b u q] at z; exact z
theorem dd_old {ρ : Rho} {i j : Nat} {s : Slot} {a : Addr} {l : List ((Int × Int) × Int)} (hs : ∀ a l, s ≠ .dd a l) (h : (ρ.set i s)[j]? = some (.dd a l)) : ρ[j]? = some (.dd a l) := by
  by_cases q : i = j
  · subst q
    by_cases hi : i < ρ.length
    · rw [List.getElem?_set_self hi] at h
      exact absurd (Option.some.inj h) (hs a l)
    · rw [List.getElem?_eq_none (by rw [List.length_set]; omega)] at h; cases h
  · rw [List.getElem?_set_ne q] at h
    exact h
theorem dds_set {H0 H : Hp} {O0 : Addr → Prop} {σ : St} {ρ : Rho} (h : DdOk H0 O0 H σ ρ) {i : Nat} {v : Option V} {s : Slot} (hs : ∀ a l, s ≠ .dd a l) : DdOk H0 O0 H (σ.set i v) (ρ.set i s) := fun j a l e => by
  by_cases q : i = j
  · subst q
    by_cases hi : i < ρ.length
    · rw [List.getElem?_set_self hi] at e
      exact absurd (Option.some.inj e) (hs a l)
    · rw [List.getElem?_eq_none (by rw [List.length_set]; omega)] at e; cases e
  · rw [List.getElem?_set_ne q] at e ⊢
    obtain ⟨e1, e2, e3, e4, e5, e6⟩ := h j a l e
    exact ⟨e1, e2, e3, e4, fun m l' z => e5 m l' (dd_old hs z), e6⟩
theorem dds_setR {H0 H : Hp} {O0 : Addr → Prop} {σ : St} {ρ : Rho} (h : DdOk H0 O0 H σ ρ) {i : Nat} {s : Slot} (hs : ∀ a l, s ≠ .dd a l) : DdOk H0 O0 H σ (ρ.set i s) := fun j a l e => by
  by_cases q : i = j
  · subst q
    by_cases hi : i < ρ.length
    · rw [List.getElem?_set_self hi] at e
      exact absurd (Option.some.inj e) (hs a l)
    · rw [List.getElem?_eq_none (by rw [List.length_set]; omega)] at e; cases e
  · rw [List.getElem?_set_ne q] at e
    obtain ⟨e1, e2, e3, e4, e5, e6⟩ := h j a l e
    exact ⟨e1, e2, e3, e4, fun m l' z => e5 m l' (dd_old hs z), e6⟩
theorem exs_set {σ : St} {ρ : Rho} (hl : σ.length = ρ.length) (h : ∀ (i : Nat) (a : Addr), ρ[i]? = some (.ex a) → σ[i]? = some (some (.ref a))) {i : Nat} {v : Option V} {s : Slot} (hs : ∀ a, s = .ex a → v = some (.ref a)) : ∀ (j : Nat) (a : Addr), (ρ.set i s)[j]? = some (.ex a) → (σ.set i v)[j]? = some (some (.ref a)) := fun j a e => by
  by_cases q : i = j
  · subst q
    by_cases hi : i < ρ.length
    · rw [List.getElem?_set_self hi] at e
      rw [List.getElem?_set_self (by rw [hl]; exact hi), hs a (Option.some.inj e)]
    · rw [List.getElem?_eq_none (by rw [List.length_set]; omega)] at e; cases e
  · rw [List.getElem?_set_ne q] at e ⊢
    exact h j a e
theorem exs_setR {σ : St} {ρ : Rho} (h : ∀ (i : Nat) (a : Addr), ρ[i]? = some (.ex a) → σ[i]? = some (some (.ref a))) {i : Nat} {s : Slot} (hs : ∀ a, s ≠ .ex a) : ∀ (j : Nat) (a : Addr), (ρ.set i s)[j]? = some (.ex a) → σ[j]? = some (some (.ref a)) := fun j a e => by
  by_cases q : i = j
  · subst q
    by_cases hi : i < ρ.length
    · rw [List.getElem?_set_self hi] at e
      exact absurd (Option.some.inj e) (hs a)
    · rw [List.getElem?_eq_none (by rw [List.length_set]; omega)] at e; cases e
  · rw [List.getElem?_set_ne q] at e
    exact h j a e
section
variable {K : PySem.W.Frag} {H0 H H' : Hp} {O0 : Addr → Prop} {σ : St} {ρ : Rho}
theorem StR.there (S : StR K H0 O0 H σ ρ) {a : Addr} (h : OO O0 σ ρ a) : H a ≠ none := by
  rcases h with h | ⟨i, ps, h1, h2⟩
  · exact S.all0 a h
  · obtain ⟨b, vs, e1, e2, _⟩ := S.own i ps h1
    rw [h2] at e1; cases e1
    rw [e2]; exact fun z => nomatch z
theorem StR.step (S : StR K H0 O0 H σ ρ) (s : Same H H') : StR K H0 O0 H' σ ρ :=
  ⟨S.len, S.same.trans s, fun a h z => S.all0 a h (s.free z), fun i ps h => let ⟨a, vs, e1, e2, e3, e5, e4⟩ := S.own i ps h; ⟨a, vs, e1, s _ _ e2, e3, e5, e4.same s⟩, S.dis, fun i p h => let ⟨v, e1, e2⟩ := S.val i p h; ⟨v, e1, e2.same s⟩, S.exs, dds_later S.dds (fun _ _ e => s _ _ e) (tup_same S.all0 s)⟩
theorem OO.set_val {i : Nat} {v : Option V} {s : Slot} (hs : ∀ ps, s ≠ .own ps) {a : Addr} (h : OO O0 (σ.set i v) (ρ.set i s) a) : OO O0 σ ρ a := by
  rcases h with h | ⟨j, ps, h1, h2⟩
  · exact .inl h
  · by_cases e : i = j
    · subst e
      by_cases hl : i < ρ.length
      · rw [List.getElem?_set_self hl] at h1; exact absurd (Option.some.inj h1) (hs ps)
      · rw [List.getElem?_eq_none (by rw [List.length_set]; omega)] at h1; cases h1
    · rw [List.getElem?_set_ne e] at h1 h2
      exact .inr ⟨j, ps, h1, h2⟩
/-- a slot is set to a shared value (or emptied) -/
theorem StR.set (S : StR K H0 O0 H σ ρ) {i : Nat} {v : Option V} {s : Slot} (hs : ∀ ps, s ≠ .own ps) (hv : ∀ p, s = .val p → ∃ w, v = some w ∧ Rep K H (OO O0 σ ρ) w p) (hx : ∀ a, s = .ex a → v = some (.ref a) := by intro _ z; cases z) (hd : ∀ a l, s ≠ .dd a l := by intro _ _ z; cases z) : StR K H0 O0 H (σ.set i v) (ρ.set i s) := by
  have less : ∀ a, OO O0 (σ.set i v) (ρ.set i s) a → OO O0 σ ρ a := fun a h => OO.set_val hs h
  refine ⟨by rw [List.length_set, List.length_set, S.len], S.same, S.all0, fun j ps h => ?_, fun j k a ps qs h1 h2 h3 h4 => ?_, fun j p h => ?_, exs_set S.len S.exs hx, dds_set S.dds hd⟩
  · by_cases e : i = j
    · subst e
      by_cases hl : i < ρ.length
      · rw [List.getElem?_set_self hl] at h; exact absurd (Option.some.inj h) (hs ps)
      · rw [List.getElem?_eq_none (by rw [List.length_set]; omega)] at h; cases h
    · rw [List.getElem?_set_ne e] at h
      obtain ⟨a, vs, e1, e2, e3, e5, e4⟩ := S.own j ps h
      exact ⟨a, vs, by rw [List.getElem?_set_ne e]; exact e1, e2, e3, e5, e4.less less⟩
  · have go : ∀ {j : Nat} {ps : List PV}, (ρ.set i s)[j]? = some (.own ps) → i ≠ j := fun {j ps} h e => by
      subst e
      by_cases hl : i < ρ.length
      · rw [List.getElem?_set_self hl] at h; exact absurd (Option.some.inj h) (hs ps)
      · rw [List.getElem?_eq_none (by rw [List.length_set]; omega)] at h; cases h
    have e1 := go h1
    have e2 := go h2
    rw [List.getElem?_set_ne e1] at h1 h3
    rw [List.getElem?_set_ne e2] at h2 h4
    exact S.dis j k a ps qs h1 h2 h3 h4
  · by_cases e : i = j
    · subst e
      by_cases hl : i < ρ.length
      · rw [List.getElem?_set_self hl] at h
        obtain ⟨w, e1, e2⟩ := hv p (Option.some.inj h)
        exact ⟨w, by rw [List.getElem?_set_self (by rw [S.len]; exact hl), e1], e2.less less⟩
      · rw [List.getElem?_eq_none (by rw [List.length_set]; omega)] at h; cases h
    · rw [List.getElem?_set_ne e] at h
      obtain ⟨w, e1, e2⟩ := S.val j p h
      exact ⟨w, by rw [List.getElem?_set_ne e]; exact e1, e2.less less⟩
/-- a slot is set to a list that is new -/
theorem StR.setOwn (S : StR K H0 O0 H σ ρ) (s : Same H H') {i : Nat} {a : Addr} {vs : List V} {ps : List PV} (hn : H a = none) (ha : H' a = some (.lst vs)) (hr : Reps K H' (fun b => OO O0 σ ρ b ∨ b = a) vs ps) :
    StR K H0 O0 H' (σ.set i (some (.ref a))) (ρ.set i (.own ps)) := by
  have less : ∀ b, OO O0 (σ.set i (some (.ref a))) (ρ.set i (.own ps)) b → OO O0 σ ρ b ∨ b = a := fun b h => by
    rcases h with h | ⟨j, qs, h1, h2⟩
    · exact .inl (.inl h)
    · by_cases e : i = j
      · subst e
        by_cases hl : i < σ.length
        · rw [List.getElem?_set_self hl] at h2; cases h2; exact .inr rfl
        · rw [List.getElem?_eq_none (by rw [List.length_set]; omega)] at h2; cases h2
      · rw [List.getElem?_set_ne e] at h1 h2
        exact .inl (.inr ⟨j, qs, h1, h2⟩)
  have h0 : H0 a = none := S.same.free hn
  have nota : ∀ {b : Addr} {o : HO}, H b = some o → b ≠ a := fun hb z => by rw [z, hn] at hb; cases hb
  have keep : ∀ {v : V} {p : PV}, Rep K H (OO O0 σ ρ) v p → Rep K H' (OO O0 (σ.set i (some (.ref a))) (ρ.set i (.own ps))) v p := fun r => r.mono fun b o hb nb => ⟨s b o hb, fun z => (less b z).elim nb (nota hb)⟩
  have keeps : ∀ {v : List V} {p : List PV}, Reps K H (OO O0 σ ρ) v p → Reps K H' (OO O0 (σ.set i (some (.ref a))) (ρ.set i (.own ps))) v p := fun r => r.mono fun b o hb nb => ⟨s b o hb, fun z => (less b z).elim nb (nota hb)⟩
  refine ⟨by rw [List.length_set, List.length_set, S.len], S.same.trans s, fun a h z => S.all0 a h (s.free z), fun j qs h => ?_, fun j k b qs rs h1 h2 h3 h4 => ?_, fun j p h => ?_, exs_set S.len S.exs fun _ z => (nomatch z), dds_set (dds_later S.dds (fun _ _ e => s _ _ e) (tup_same S.all0 s)) fun _ _ z => (nomatch z)⟩
  · by_cases e : i = j
    · subst e
      by_cases hl : i < ρ.length
      · rw [List.getElem?_set_self hl] at h; cases h
        exact ⟨a, vs, by rw [List.getElem?_set_self (by rw [S.len]; exact hl)], ha, h0, fun z => S.all0 a z hn, hr.less less⟩
      · rw [List.getElem?_eq_none (by rw [List.length_set]; omega)] at h; cases h
    · rw [List.getElem?_set_ne e] at h
      obtain ⟨b, ws, e1, e2, e3, e5, e4⟩ := S.own j qs h
      exact ⟨b, ws, by rw [List.getElem?_set_ne e]; exact e1, s _ _ e2, e3, e5, keeps e4⟩
  · have other : ∀ {j : Nat} {qs : List PV} {b : Addr}, i ≠ j → (ρ.set i (.own ps))[j]? = some (.own qs) → (σ.set i (some (.ref a)))[j]? = some (some (.ref b)) → b ≠ a := fun {j qs b} e h1 h3 z => by
      rw [List.getElem?_set_ne e] at h1 h3
      obtain ⟨c, ws, e1, e2, _⟩ := S.own j qs h1
      rw [h3] at e1; cases e1
      exact nota e2 z
    have self : ∀ {j : Nat} {b : Addr}, i = j → (σ.set i (some (.ref a)))[j]? = some (some (.ref b)) → b = a := fun {j b} e h3 => by
      subst e
      by_cases hl : i < σ.length
      · rw [List.getElem?_set_self hl] at h3; cases h3; rfl
      · rw [List.getElem?_eq_none (by rw [List.length_set]; omega)] at h3; cases h3
    by_cases e1 : i = j
    · by_cases e2 : i = k
      · exact e1.symm.trans e2
      · exact absurd (self e1 h3) (other e2 h2 h4)
    · by_cases e2 : i = k
      · exact absurd (self e2 h4) (other e1 h1 h3)
      · rw [List.getElem?_set_ne e1] at h1 h3
        rw [List.getElem?_set_ne e2] at h2 h4
        exact S.dis j k b qs rs h1 h2 h3 h4
  · by_cases e : i = j
    · subst e
      by_cases hl : i < ρ.length
      · rw [List.getElem?_set_self hl] at h; cases h
      · rw [List.getElem?_eq_none (by rw [List.length_set]; omega)] at h; cases h
    · rw [List.getElem?_set_ne e] at h
      obtain ⟨w, e1, e2⟩ := S.val j p h
      exact ⟨w, by rw [List.getElem?_set_ne e]; exact e1, keep e2⟩
/-- an owned list is changed -/
theorem StR.write (S : StR K H0 O0 H σ ρ) {i : Nat} {a : Addr} {ps qs : List PV} {ws : List V} (h1 : ρ[i]? = some (.own ps)) (h2 : σ[i]? = some (some (.ref a))) (hr : Reps K H (OO O0 σ ρ) ws qs) :
    StR K H0 O0 (upd H a (.lst ws)) σ (ρ.set i (.own qs)) := by
  have hi : i < ρ.length := (List.getElem?_eq_some_iff.mp h1).1
  have oeq : ∀ b, OO O0 σ (ρ.set i (.own qs)) b ↔ OO O0 σ ρ b := fun b => by
    constructor
    · rintro (h | ⟨j, rs, e1, e2⟩)
      · exact .inl h
      · by_cases e : i = j
        · subst e; exact .inr ⟨i, ps, h1, e2⟩
        · rw [List.getElem?_set_ne e] at e1; exact .inr ⟨j, rs, e1, e2⟩
    · rintro (h | ⟨j, rs, e1, e2⟩)
      · exact .inl h
      · by_cases e : i = j
        · subst e; exact .inr ⟨i, qs, List.getElem?_set_self hi, e2⟩
        · exact .inr ⟨j, rs, by rw [List.getElem?_set_ne e]; exact e1, e2⟩
  have hO : OO O0 σ ρ a := .inr ⟨i, ps, h1, h2⟩
  have hk : ∀ b o, H b = some o → ¬ OO O0 σ ρ b → upd H a (.lst ws) b = some o ∧ ¬ OO O0 σ (ρ.set i (.own qs)) b := fun b o hb nb =>
    ⟨by rw [upd_ne (fun z => nb (by rw [z]; exact hO))]; exact hb, fun z => nb ((oeq b).mp z)⟩
  obtain ⟨a', vs, e1, e2, e3, e5, _⟩ := S.own i ps h1
  rw [h2] at e1; cases e1
  refine ⟨by rw [List.length_set, S.len], fun b o hb => ?_, fun b hb => ?_, fun j rs h => ?_, fun j k b rs ts g1 g2 g3 g4 => ?_, fun j p h => ?_, exs_setR S.exs fun _ z => (nomatch z), dds_setR (dds_later S.dds (fun b l e => by rw [upd_ne (fun z => by rw [z, e2] at e; cases e)]; exact e) fun b xs _ e => by
    by_cases q : b = a
    · rw [q, upd_same] at e; cases e
    · rw [upd_ne q] at e; exact e) fun _ _ z => (nomatch z)⟩
  · rw [upd_ne (fun z => by rw [z, e3] at hb; cases hb)]; exact S.same b o hb
  · by_cases e : b = a
    · rw [e, upd_same]; exact fun z => nomatch z
    · rw [upd_ne e]; exact S.all0 b hb
  · by_cases e : i = j
    · subst e
      rw [List.getElem?_set_self hi] at h; cases h
      exact ⟨a, ws, h2, upd_same, e3, e5, hr.mono hk⟩
    · rw [List.getElem?_set_ne e] at h
      obtain ⟨b, us, f1, f2, f3, f5, f4⟩ := S.own j rs h
      exact ⟨b, us, f1, by rw [upd_ne (fun z => e (S.dis i j a ps rs h1 h h2 (by rw [← z]; exact f1)))]; exact f2, f3, f5, f4.mono hk⟩
  · have go : ∀ {j : Nat} {rs : List PV}, (ρ.set i (.own qs))[j]? = some (.own rs) → ∃ rs', ρ[j]? = some (.own rs') := fun {j rs} h => by
      by_cases e : i = j
      · subst e; exact ⟨_, h1⟩
      · rw [List.getElem?_set_ne e] at h; exact ⟨_, h⟩
    obtain ⟨_, f1⟩ := go g1
    obtain ⟨_, f2⟩ := go g2
    exact S.dis j k b _ _ f1 f2 g3 g4
  · by_cases e : i = j
    · subst e
      rw [List.getElem?_set_self hi] at h; cases h
    · rw [List.getElem?_set_ne e] at h
      obtain ⟨w, f1, f2⟩ := S.val j p h
      exact ⟨w, f1, f2.mono hk⟩
/-- an owned list is let go: it is shared from now on -/
theorem StR.freeze (S : StR K H0 O0 H σ ρ) {i : Nat} {ps : List PV} (h1 : ρ[i]? = some (.own ps)) : StR K H0 O0 H σ (ρ.set i (.val (.lst ps))) := by
  have hi : i < ρ.length := (List.getElem?_eq_some_iff.mp h1).1
  obtain ⟨a, vs, e1, e2, e3, e5, e4⟩ := S.own i ps h1
  have hs : σ.set i (some (.ref a)) = σ := by
    refine List.ext_getElem? fun j => ?_
    by_cases e : i = j
    · subst e; rw [List.getElem?_set_self (by rw [S.len]; exact hi), e1]
    · rw [List.getElem?_set_ne e]
  have less : ∀ b, OO O0 σ (ρ.set i (.val (.lst ps))) b → OO O0 σ ρ b := fun b h => by
    rw [← hs] at h
    exact OO.set_val (fun _ z => Slot.noConfusion z) h
  have na : ¬ OO O0 σ (ρ.set i (.val (.lst ps))) a := by
    rintro (h | ⟨j, rs, f1, f2⟩)
    · exact e5 h
    · by_cases e : i = j
      · subst e
        rw [List.getElem?_set_self hi] at f1; cases f1
      · rw [List.getElem?_set_ne e] at f1
        exact e (S.dis i j a ps rs h1 f1 e1 f2)
  refine ⟨by rw [List.length_set, S.len], S.same, S.all0, fun j rs h => ?_, fun j k b rs ts g1 g2 g3 g4 => ?_, fun j p h => ?_, exs_setR S.exs fun _ z => (nomatch z), dds_setR S.dds fun _ _ z => (nomatch z)⟩
  · by_cases e : i = j
    · subst e
      rw [List.getElem?_set_self hi] at h; cases h
    · rw [List.getElem?_set_ne e] at h
      obtain ⟨b, us, f1, f2, f3, f5, f4⟩ := S.own j rs h
      exact ⟨b, us, f1, f2, f3, f5, f4.less less⟩
  · have go : ∀ {j : Nat} {rs : List PV}, (ρ.set i (.val (.lst ps)))[j]? = some (.own rs) → ρ[j]? = some (.own rs) := fun {j rs} h => by
      by_cases e : i = j
      · subst e; rw [List.getElem?_set_self hi] at h; cases h
      · rw [List.getElem?_set_ne e] at h; exact h
    exact S.dis j k b _ _ (go g1) (go g2) g3 g4
  · by_cases e : i = j
    · subst e
      rw [List.getElem?_set_self hi] at h; cases h
      exact ⟨.ref a, e1, .lst e2 na (e4.less less)⟩
    · rw [List.getElem?_set_ne e] at h
      obtain ⟨w, f1, f2⟩ := S.val j p h
      exact ⟨w, f1, f2.less less⟩
end
end PL
set_option Elab.async false
set_option linter.all false
set_option maxRecDepth 100000
set_option autoImplicit false
namespace PL
open PySem PySem.Spec L2
open PyProof.Rows hiding St
/-- how a result stands: s: apart from the owned lists; t: it may be an owned list itself; f: a list that is new; w: apart from the outer addresses alone -/
inductive Md where
  | s | t | f | w
def RepM (K : PySem.W.Frag) (O0 : Addr → Prop) (σ : St) (ρ : Rho) : Md → Hp → Hp → V → PV → Prop
  | .s, _, H', v, p => Rep K H' (OO O0 σ ρ) v p
  | .t, _, H', v, p => Rep K H' (OO O0 σ ρ) v p ∨ ∃ a vs ps, v = .ref a ∧ p = .lst ps ∧ H' a = some (.lst vs) ∧ Reps K H' (OO O0 σ ρ) vs ps
  | .f, H, H', v, p => (v = .non ∧ p = .non) ∨ ∃ a vs ps, v = .ref a ∧ p = .lst ps ∧ H a = none ∧ H' a = some (.lst vs) ∧ Reps K H' (fun b => OO O0 σ ρ b ∨ b = a) vs ps
  | .w, _, H', v, p => Rep K H' O0 v p
section
variable {K : PySem.W.Frag} {H0 H H1 H2 : Hp} {O0 : Addr → Prop} {σ : St} {ρ : Rho} {v : V} {p : PV} {m : Md}
theorem RepM.step (r : RepM K O0 σ ρ m H H1 v p) (s : Same H1 H2) : RepM K O0 σ ρ m H H2 v p := by
  cases m with
  | s => exact Rep.same s r
  | t =>
    rcases r with r | ⟨a, vs, ps, e1, e2, e3, e4⟩
    · exact .inl (r.same s)
    · exact .inr ⟨a, vs, ps, e1, e2, s _ _ e3, e4.same s⟩
  | f =>
    rcases r with z | ⟨a, vs, ps, e1, e2, e3, e4, e5⟩
    · exact .inl z
    · exact .inr ⟨a, vs, ps, e1, e2, e3, s _ _ e4, e5.same s⟩
  | w => exact Rep.same s r
theorem RepM.back (s : Same H H1) (r : RepM K O0 σ ρ m H1 H2 v p) : RepM K O0 σ ρ m H H2 v p := by
  cases m with
  | s => exact r
  | t => exact r
  | f =>
    rcases r with z | ⟨a, vs, ps, e1, e2, e3, e4, e5⟩
    · exact .inl z
    · exact .inr ⟨a, vs, ps, e1, e2, s.free e3, e4, e5⟩
  | w => exact r
theorem RepM.f_s (S : StR K H0 O0 H σ ρ) (r : RepM K O0 σ ρ .f H H1 v p) : RepM K O0 σ ρ .s H H1 v p := by
  rcases r with ⟨rfl, rfl⟩ | ⟨a, vs, ps, rfl, rfl, e3, e4, e5⟩
  · exact .non
  · exact .lst e4 (fun z => S.there z e3) (e5.less fun _ z => .inl z)
theorem RepM.s_w (r : RepM K O0 σ ρ .s H H1 v p) : RepM K O0 σ ρ .w H H1 v p := Rep.less (fun _ z => .inl z) r
theorem RepM.s_t (r : RepM K O0 σ ρ .s H H1 v p) : RepM K O0 σ ρ .t H H1 v p := .inl r
end
/-- what an expression's end must bring -/
def Got (K : PySem.W.Frag) (mg : Str → Option Value) (W : WX) (O0 : Addr → Prop) (σ : St) (ρ : Rho) (m : Md) (H : Hp) (Q : VK) : R PV → Prop
  | .ok p => ∀ v H', Same H H' → RepM K O0 σ ρ m H H' v p → Q v H'
  | .exc c => ∀ C H', Same H H' → mg c = some (.ref C) → W (.ref C) none σ H'
  | .stuck => False
def GotT (mg : Str → Option Value) (W : WX) (σ : St) (H : Hp) (Q : Bool → Hp → Prop) : R Bool → Prop
  | .ok b => ∀ H', Same H H' → Q b H'
  | .exc c => ∀ C H', Same H H' → mg c = some (.ref C) → W (.ref C) none σ H'
  | .stuck => False
def GotA (K : PySem.W.Frag) (mg : Str → Option Value) (W : WX) (O0 : Addr → Prop) (σ : St) (ρ : Rho) (m : Md) (H : Hp) (Q : List V → Hp → Prop) : R (List PV) → Prop
  | .ok ps => ∀ vs H', Same H H' → Paired (RepM K O0 σ ρ m H H') vs ps → Q vs H'
  | .exc c => ∀ C H', Same H H' → mg c = some (.ref C) → W (.ref C) none σ H'
  | .stuck => False
def tE (K : PySem.W.Frag) (mg : Str → Option Value) (W : WX) (m : Md) (f : Rho → R PV) : TE := fun σ H Q =>
  ∃ H0 O0 ρ, StR K H0 O0 H σ ρ ∧ Got K mg W O0 σ ρ m H Q (f ρ)
def tT (K : PySem.W.Frag) (mg : Str → Option Value) (W : WX) (f : Rho → R Bool) : TT := fun σ H Q =>
  ∃ H0 O0 ρ, StR K H0 O0 H σ ρ ∧ GotT mg W σ H Q (f ρ)
def tA (K : PySem.W.Frag) (mg : Str → Option Value) (W : WX) (m : Md) (f : Rho → R (List PV)) : TA := fun σ H Q =>
  ∃ H0 O0 ρ, StR K H0 O0 H σ ρ ∧ GotA K mg W O0 σ ρ m H Q (f ρ)
abbrev EJ (X : Cx) (W : WX) (m : Md) (e : Expr) (f : Rho → R PV) : Prop := PE X e (tE X.K X.mg W m f)
abbrev TJ (X : Cx) (W : WX) (e : Expr) (f : Rho → R Bool) : Prop := PT X e (tT X.K X.mg W f)
abbrev AJ (X : Cx) (W : WX) (m : Md) (es : List Expr) (f : Rho → R (List PV)) : Prop := PA X es (tA X.K X.mg W m f)
section
variable {X : Cx} {e a b : Expr} {pos : Pos}
theorem pe_imp {t t' : TE} (h : PE X e t) (q : ∀ σ H Q, t' σ H Q → t σ H Q) : PE X e t' := ⟨fun pins s σ H Q I hw => h.run pins s σ H Q I (q σ H Q hw)⟩
theorem pt_imp {t t' : TT} (h : PT X e t) (q : ∀ σ H Q, t' σ H Q → t σ H Q) : PT X e t' := ⟨fun pins s σ H Q I hw => h.run pins s σ H Q I (q σ H Q hw)⟩
theorem pw_imp {t t' : TT} (h : PW X e t) (q : ∀ σ H Q, t' σ H Q → t σ H Q) : PW X e t' := ⟨fun wh pins s σ H Q I hw => h.run wh pins s σ H Q I (q σ H Q hw)⟩
theorem pa_imp {es : List Expr} {t t' : TA} (h : PA X es t) (q : ∀ σ H Q, t' σ H Q → t σ H Q) : PA X es t' := ⟨fun pos pins s σ H Q I hw => h.run pos pins s σ H Q I (q σ H Q hw)⟩
end
section
variable {K : PySem.W.Frag} {mg : Str → Option Value} {W : WX} {H0 H H1 H2 : Hp} {O0 : Addr → Prop} {σ : St} {ρ : Rho} {m m1 m2 : Md}
/-- from a later heap -/
theorem Got.later {x : R PV} {Q : VK} (s : Same H H1) (h : Got K mg W O0 σ ρ m H Q x) : Got K mg W O0 σ ρ m H1 Q x := by
  cases x with
  | ok p => exact fun v H' s' r => h v H' (s.trans s') (r.back s)
  | exc c => exact fun C H' s' e => h C H' (s.trans s') e
  | stuck => exact h
theorem GotT.later {x : R Bool} {Q : Bool → Hp → Prop} (s : Same H H1) (h : GotT mg W σ H Q x) : GotT mg W σ H1 Q x := by
  cases x with
  | ok p => exact fun H' s' => h H' (s.trans s')
  | exc c => exact fun C H' s' e => h C H' (s.trans s') e
  | stuck => exact h
end
def eC (p : PV) : Rho → R PV := fun _ => .ok p
def eV (i : Nat) : Rho → R PV := fun ρ => match ρ[i]? with
  | some (.val p) => .ok p
  | _ => .stuck
def eVo (i : Nat) : Rho → R PV := fun ρ => match ρ[i]? with
  | some (.val p) => .ok p
  | some (.own ps) => .ok (.lst ps)
  | _ => .stuck
section
variable {X : Cx} {W : WX} {e a b c : Expr} {pos : Pos} {m m1 m2 m3 : Md} {f g h : Rho → R PV}
theorem e_const {v : V} {p : PV} (hp : PE X e (tC v)) (hr : ∀ K H O, Rep K H O v p) : EJ X W .s e (eC p) := by
  refine pe_imp hp fun σ H Q ⟨H0, O0, ρ, S, G⟩ => ?_
  exact G v H (Same.refl H) (hr _ _ _)
theorem e_int {i : Int} {j : Nat} : EJ X W .s (.Constant (.int i) j pos) (eC (.int i)) := e_const pe_int fun _ _ _ => .int i
theorem e_bl {k : Bool} {j : Nat} : EJ X W .s (.Constant (.bool k) j pos) (eC (.bl k)) := e_const pe_bl fun _ _ _ => .bl k
theorem e_str {x : Str} {j : Nat} : EJ X W .s (.Constant (.str x) j pos) (eC (.str x)) := e_const pe_str fun _ _ _ => .str x
theorem e_s_t (h : EJ X W .s e f) : EJ X W .t e f := by
  refine pe_imp h fun σ H Q ⟨H0, O0, ρ, S, G⟩ => ⟨H0, O0, ρ, S, ?_⟩
  revert G
  cases f ρ with
  | ok p => exact fun G v H' s r => G v H' s (RepM.s_t (H := H) r)
  | exc c => exact id
  | stuck => exact id
theorem e_f_s (h : EJ X W .f e f) : EJ X W .s e f := by
  refine pe_imp h fun σ H Q ⟨H0, O0, ρ, S, G⟩ => ⟨H0, O0, ρ, S, ?_⟩
  revert G
  cases f ρ with
  | ok p => exact fun G v H' s r => G v H' s (RepM.f_s S r)
  | exc c => exact id
  | stuck => exact id
theorem e_f_t (h : EJ X W .f e f) : EJ X W .t e f := e_s_t (e_f_s h)
theorem eVar_get {K : PySem.W.Frag} {H0 H : Hp} {O0 : Addr → Prop} {σ : St} {ρ : Rho} (S : StR K H0 O0 H σ ρ) {i : Nat} {p : PV} (h : eV i ρ = .ok p) : ∃ v, σ[i]? = some (some v) ∧ Rep K H (OO O0 σ ρ) v p := by
  unfold eV at h
  split at h
  · rename_i q hq
    cases h
    exact S.val i _ hq
  · cases h
theorem e_var {i : Nat} (hp : PE X e (tVar i)) : EJ X W .s e (eV i) := by
  refine pe_imp hp fun σ H Q ⟨H0, O0, ρ, S, G⟩ => ?_
  revert G
  cases hv : eV i ρ with
  | ok p =>
    intro G
    obtain ⟨v, e1, e2⟩ := eVar_get S hv
    exact ⟨v, e1, G v H (Same.refl H) e2⟩
  | exc c => unfold eV at hv; split at hv <;> cases hv
  | stuck => exact False.elim
theorem eVo_get {K : PySem.W.Frag} {H0 H : Hp} {O0 : Addr → Prop} {σ : St} {ρ : Rho} (S : StR K H0 O0 H σ ρ) {i : Nat} {p : PV} (h : eVo i ρ = .ok p) : ∃ v, σ[i]? = some (some v) ∧ RepM K O0 σ ρ .t H H v p ∧ RepM K O0 σ ρ .w H H v p := by
  unfold eVo at h
  split at h
  · rename_i q hq
    cases h
    obtain ⟨v, e1, e2⟩ := S.val i _ hq
    exact ⟨v, e1, .inl e2, RepM.s_w (H := H) e2⟩
  · rename_i ps hq
    cases h
    obtain ⟨a, vs, e1, e2, e3, e5, e4⟩ := S.own i _ hq
    exact ⟨.ref a, e1, .inr ⟨a, vs, _, rfl, rfl, e2, e4⟩, .lst e2 e5 (e4.less fun _ z => .inl z)⟩
  · cases h
theorem eVo_noexc {i : Nat} {ρ : Rho} {c : Str} (h : eVo i ρ = .exc c) : False := by
  unfold eVo at h
  split at h <;> cases h
theorem e_varT {i : Nat} (hp : PE X e (tVar i)) : EJ X W .t e (eVo i) := by
  refine pe_imp hp fun σ H Q ⟨H0, O0, ρ, S, G⟩ => ?_
  revert G
  cases hv : eVo i ρ with
  | ok p =>
    intro G
    obtain ⟨v, e1, e2, _⟩ := eVo_get S hv
    exact ⟨v, e1, G v H (Same.refl H) e2⟩
  | exc c => exact (eVo_noexc hv).elim
  | stuck => exact False.elim
/-- what an operation's end must bring -/
def GotV (K : PySem.W.Frag) (O0 : Addr → Prop) (σ : St) (ρ : Rho) (m : Md) (H H2 : Hp) (Q : VK) : R PV → Prop
  | .ok p => ∀ v H', Same H2 H' → RepM K O0 σ ρ m H H' v p → Q v H'
  | _ => False
def OpS (K : PySem.W.Frag) (r : R2) (m1 m2 m : Md) (g : PV → PV → R PV) : Prop :=
  ∀ {H0 O0 σ ρ H H2 x y p q} {Q : VK}, StR K H0 O0 H σ ρ → Same H H2 → RepM K O0 σ ρ m1 H H2 x p → RepM K O0 σ ρ m2 H H2 y q → GotV K O0 σ ρ m H H2 Q (g p q) → r x y H2 Q
def UnS (K : PySem.W.Frag) (r : V → Hp → VK → Prop) (m1 m : Md) (g : PV → R PV) : Prop :=
  ∀ {H0 O0 σ ρ H H2 x p} {Q : VK}, StR K H0 O0 H σ ρ → Same H H2 → RepM K O0 σ ρ m1 H H2 x p → GotV K O0 σ ρ m H H2 Q (g p) → r x H2 Q
def CallS (K : PySem.W.Frag) (r : List V → Hp → VK → Prop) (m1 m : Md) (g : List PV → R PV) : Prop :=
  ∀ {H0 O0 σ ρ H H2 xs ps} {Q : VK}, StR K H0 O0 H σ ρ → Same H H2 → Paired (RepM K O0 σ ρ m1 H H2) xs ps → GotV K O0 σ ρ m H H2 Q (g ps) → r xs H2 Q
def e2 (g : PV → PV → R PV) (f1 f2 : Rho → R PV) : Rho → R PV := fun ρ => (f1 ρ).bind fun x => (f2 ρ).bind fun y => g x y
def e1 (g : PV → R PV) (f1 : Rho → R PV) : Rho → R PV := fun ρ => (f1 ρ).bind g
theorem Got.v {K : PySem.W.Frag} {mg : Str → Option Value} {O0 : Addr → Prop} {σ : St} {ρ : Rho} {H H2 : Hp} {Q : VK} {x : R PV} (hx : ∀ c, x ≠ .exc c) (s : Same H H2) (G : Got K mg W O0 σ ρ m H Q x) : GotV K O0 σ ρ m H H2 Q x := by
  cases x with
  | ok p => exact fun v H' s' r => G v H' (s.trans s') r
  | exc c => exact absurd rfl (hx c)
  | stuck => exact G
theorem t_op {r : R2} {g : PV → PV → R PV} (hg : ∀ p q c, g p q ≠ .exc c) (ho : OpS X.K r m1 m2 m g) : ∀ σ H Q, tE X.K X.mg W m (e2 g f h) σ H Q → tOp r (tE X.K X.mg W m1 f) (tE X.K X.mg W m2 h) σ H Q := by
  intro σ H Q ⟨H0, O0, ρ, S, G⟩
  refine ⟨H0, O0, ρ, S, ?_⟩
  revert G
  unfold e2
  cases f ρ with
  | stuck => exact False.elim
  | exc c => exact id
  | ok p =>
    intro G x H1 s1 r1
    refine ⟨H0, O0, ρ, S.step s1, ?_⟩
    revert G
    rw [R.bind_ok]
    cases h ρ with
    | stuck => exact False.elim
    | exc c => exact fun G C H' s' => G C H' (s1.trans s')
    | ok q =>
      intro G y H2 s2 r2
      exact ho S (s1.trans s2) (r1.step s2) (r2.back s1) (Got.v (hg p q) (s1.trans s2) G)
theorem e_op {op : Operator} {r : R2} {g : PV → PV → R PV} (hr : OpR X (binaryOp op) r) (hg : ∀ p q c, g p q ≠ .exc c) (ho : OpS X.K r m1 m2 m g) (ha : EJ X W m1 a f) (hb : EJ X W m2 b h) : EJ X W m (.BinOp a op b pos) (e2 g f h) :=
  pe_imp (pe_op hr ha hb) (t_op hg ho)
theorem e_cmp {op : CmpOp} {r : R2} {g : PV → PV → R PV} (hr : OpR X (compareOp op) r) (hg : ∀ p q c, g p q ≠ .exc c) (ho : OpS X.K r m1 m2 m g) (ha : EJ X W m1 a f) (hb : EJ X W m2 b h) (hm : behindInMarks op b = false) : EJ X W m (.Compare a [op] [b] pos) (e2 g f h) :=
  pe_imp (pe_cmpR hr ha hb hm) (t_op hg ho)
theorem e_ix {r : R2} {g : PV → PV → R PV} (hr : IxR X r) (hg : ∀ p q c, g p q ≠ .exc c) (ho : OpS X.K r m1 m2 m g) (ha : EJ X W m1 a f) (hb : EJ X W m2 b h) (hs : PlainIx b) : EJ X W m (.Subscript a b pos) (e2 g f h) :=
  pe_imp (pe_ix hr ha hb hs) (t_op hg ho)
theorem e_un {op : UnaryOp} {r : V → Hp → VK → Prop} {g : PV → R PV} (hr : UnR X (unaryOp op) r) (hg : ∀ p c, g p ≠ .exc c) (ho : UnS X.K r m1 m g) (ha : EJ X W m1 a f) : EJ X W m (.UnaryOp op a pos) (e1 g f) := by
  refine pe_imp (pe_un hr ha) fun σ H Q ⟨H0, O0, ρ, S, G⟩ => ⟨H0, O0, ρ, S, ?_⟩
  revert G
  unfold e1
  cases f ρ with
  | stuck => exact False.elim
  | exc c => exact id
  | ok p => exact fun G x H1 s1 r1 => ho S s1 r1 (Got.v (hg p) s1 G)
def asB : PV → R Bool
  | .bl b => .ok b
  | _ => .stuck
def tB1 (f : Rho → R PV) : Rho → R Bool := fun ρ => (f ρ).bind asB
theorem GotB {K : PySem.W.Frag} {mg : Str → Option Value} {O0 : Addr → Prop} {σ : St} {ρ : Rho} {H : Hp} {Q : Bool → Hp → Prop} {x : R PV} (G : GotT mg W σ H Q (x.bind asB)) : Got K mg W O0 σ ρ .s H (fun v H' => ∃ k, v = .bl k ∧ Q k H') x := by
  revert G
  cases x with
  | stuck => exact False.elim
  | exc c => exact id
  | ok p =>
    cases p with
    | bl b => exact fun G v H' s r => by cases r; exact ⟨b, rfl, G H' s⟩
    | _ => exact False.elim
theorem t_cmp {op : CmpOp} {r : R2} {g : PV → PV → R PV} (hr : OpR X (compareOp op) r) (hg : ∀ p q c, g p q ≠ .exc c) (ho : OpS X.K r m1 m2 .s g) (ha : EJ X W m1 a f) (hb : EJ X W m2 b h) (hm : behindInMarks op b = false) : TJ X W (.Compare a [op] [b] pos) (tB1 (e2 g f h)) := by
  refine pt_imp (pt_cmpR hr ha hb hm) fun σ H Q ⟨H0, O0, ρ, S, G⟩ => ?_
  exact t_op hg ho σ H _ ⟨H0, O0, ρ, S, GotB G⟩
/-- an expression of any other kind, worth a truth value -/
theorem t_val (ha : EJ X W .s e f) (he : ∀ whole, isTrue e X.env whole = (do let v ← whole; standAt e.pos; holding [v] (truthy v)) := by intro _; rfl) : TJ X W e (tB1 f) := by
  refine pt_imp (pt_val ha he) fun σ H Q ⟨H0, O0, ρ, S, G⟩ => ⟨H0, O0, ρ, S, GotB G⟩
variable {fT gT hT : Rho → R Bool}
def tNt (f : Rho → R Bool) : Rho → R Bool := fun ρ => (f ρ).bind fun b => .ok (!b)
def tAn (f g : Rho → R Bool) : Rho → R Bool := fun ρ => (f ρ).bind fun b => if b = true then g ρ else .ok false
def tOr' (f g : Rho → R Bool) : Rho → R Bool := fun ρ => (f ρ).bind fun b => if b = true then .ok true else g ρ
theorem t_not (ha : TJ X W a fT) : TJ X W (.UnaryOp .Not a pos) (tNt fT) := by
  refine pt_imp (pt_not ha) fun σ H Q ⟨H0, O0, ρ, S, G⟩ => ⟨H0, O0, ρ, S, ?_⟩
  revert G
  unfold tNt
  cases fT ρ with
  | stuck => exact False.elim
  | exc c => exact id
  | ok b => exact fun G H' s => G H' s
abbrev WJ (X : Cx) (W : WX) (e : Expr) (f : Rho → R Bool) : Prop := PW X e (tT X.K X.mg W f)
theorem t_w (h : WJ X W e fT) : TJ X W e fT := PW.pt h
variable {rest : List Expr}
theorem w_and1 (ha : TJ X W a fT) : WJ X W (.BoolOp .And [a] pos) fT := pw_and1 ha
theorem w_or1 (ha : TJ X W a fT) : WJ X W (.BoolOp .Or [a] pos) fT := pw_or1 ha
theorem w_and (ha : TJ X W a fT) (hb : WJ X W (.BoolOp .And (b :: rest) pos) gT) : WJ X W (.BoolOp .And (a :: b :: rest) pos) (tAn fT gT) := by
  refine pw_imp (pw_and ha hb) fun σ H Q ⟨H0, O0, ρ, S, G⟩ => ⟨H0, O0, ρ, S, ?_⟩
  revert G
  unfold tAn
  cases fT ρ with
  | stuck => exact False.elim
  | exc c => exact id
  | ok k =>
    intro G H1 s1
    cases k with
    | true => rw [if_pos rfl]; exact ⟨H0, O0, ρ, S.step s1, GotT.later s1 G⟩
    | false => rw [if_neg Bool.false_ne_true]; exact G H1 s1
theorem w_or (ha : TJ X W a fT) (hb : WJ X W (.BoolOp .Or (b :: rest) pos) gT) : WJ X W (.BoolOp .Or (a :: b :: rest) pos) (tOr' fT gT) := by
  refine pw_imp (pw_or ha hb) fun σ H Q ⟨H0, O0, ρ, S, G⟩ => ⟨H0, O0, ρ, S, ?_⟩
  revert G
  unfold tOr'
  cases fT ρ with
  | stuck => exact False.elim
  | exc c => exact id
  | ok k =>
    intro G H1 s1
    cases k with
    | false => rw [if_neg Bool.false_ne_true]; exact ⟨H0, O0, ρ, S.step s1, GotT.later s1 G⟩
    | true => rw [if_pos rfl]; exact G H1 s1
/-- and, or, not as values -/
def eAn (f g : Rho → R PV) : Rho → R PV := fun ρ => (f ρ).bind fun p => (asB p).bind fun b => if b = true then g ρ else .ok (.bl false)
def eOr (f g : Rho → R PV) : Rho → R PV := fun ρ => (f ρ).bind fun p => (asB p).bind fun b => if b = true then .ok (.bl true) else g ρ
def notP : PV → R PV
  | .bl b => .ok (.bl (!b))
  | _ => .stuck
theorem e_one {op : BoolOp} (ha : EJ X W m a f) : EJ X W m (.BoolOp op [a] pos) f := pe_one ha
theorem e_and (ha : EJ X W .s a f) (hb : EJ X W .s (.BoolOp .And (b :: rest) pos) g) : EJ X W .s (.BoolOp .And (a :: b :: rest) pos) (eAn f g) := by
  refine pe_imp (pe_and ha hb) fun σ H Q ⟨H0, O0, ρ, S, G⟩ => ⟨H0, O0, ρ, S, ?_⟩
  revert G
  unfold eAn
  cases f ρ with
  | stuck => exact False.elim
  | exc c => exact id
  | ok p =>
    cases p with
    | bl k =>
      intro G v H1 s1 r1
      cases r1
      refine ⟨k, rfl, ?_⟩
      cases k with
      | true => rw [if_pos rfl]; exact ⟨H0, O0, ρ, S.step s1, Got.later s1 G⟩
      | false => rw [if_neg Bool.false_ne_true]; exact G _ H1 s1 (.bl false)
    | _ => exact False.elim
theorem e_or (ha : EJ X W .s a f) (hb : EJ X W .s (.BoolOp .Or (b :: rest) pos) g) : EJ X W .s (.BoolOp .Or (a :: b :: rest) pos) (eOr f g) := by
  refine pe_imp (pe_or ha hb) fun σ H Q ⟨H0, O0, ρ, S, G⟩ => ⟨H0, O0, ρ, S, ?_⟩
  revert G
  unfold eOr
  cases f ρ with
  | stuck => exact False.elim
  | exc c => exact id
  | ok p =>
    cases p with
    | bl k =>
      intro G v H1 s1 r1
      cases r1
      refine ⟨k, rfl, ?_⟩
      cases k with
      | false => rw [if_neg Bool.false_ne_true]; exact ⟨H0, O0, ρ, S.step s1, Got.later s1 G⟩
      | true => rw [if_pos rfl]; exact G _ H1 s1 (.bl true)
    | _ => exact False.elim
theorem e_not (ha : EJ X W .s a f) : EJ X W .s (.UnaryOp .Not a pos) (e1 notP f) := by
  refine pe_imp (pe_not ha) fun σ H Q ⟨H0, O0, ρ, S, G⟩ => ⟨H0, O0, ρ, S, ?_⟩
  revert G
  unfold e1
  cases f ρ with
  | stuck => exact False.elim
  | exc c => exact id
  | ok p =>
    cases p with
    | bl k => exact fun G v H1 s1 r1 => by cases r1; exact ⟨k, rfl, G _ H1 s1 (.bl _)⟩
    | _ => exact False.elim
def eIf (t : Rho → R Bool) (f g : Rho → R PV) : Rho → R PV := fun ρ => (t ρ).bind fun b => if b = true then f ρ else g ρ
def aNil : Rho → R (List PV) := fun _ => .ok []
def aCons (f : Rho → R PV) (g : Rho → R (List PV)) : Rho → R (List PV) := fun ρ => (f ρ).bind fun p => (g ρ).bind fun ps => .ok (p :: ps)
variable {es : List Expr} {fA : Rho → R (List PV)}
theorem a_nil : AJ X W m [] aNil := by
  refine pa_imp pa_nil fun σ H Q ⟨H0, O0, ρ, S, G⟩ => ?_
  exact G [] H (Same.refl H) .nil
theorem a_cons (ha : EJ X W m e f) (hr : AJ X W m es fA) (hs : starEach (e :: es) X.env = (false, eval e X.env) :: starEach es X.env := by rfl) : AJ X W m (e :: es) (aCons f fA) := by
  refine pa_imp (pa_cons ha hr hs) fun σ H Q ⟨H0, O0, ρ, S, G⟩ => ⟨H0, O0, ρ, S, ?_⟩
  revert G
  unfold aCons
  cases f ρ with
  | stuck => exact False.elim
  | exc c => exact id
  | ok p =>
    intro G v H1 s1 r1
    refine ⟨H0, O0, ρ, S.step s1, ?_⟩
    revert G
    rw [R.bind_ok]
    cases fA ρ with
    | stuck => exact False.elim
    | exc c => exact fun G C H' s' => G C H' (s1.trans s')
    | ok ps =>
      intro G vs H2 s2 r2
      refine G (v :: vs) H2 (s1.trans s2) (.cons (r1.step s2) ?_)
      exact Paired.mapP r2 fun _ _ z => z.back s1
theorem reps_of {K : PySem.W.Frag} {O0 : Addr → Prop} {σ : St} {ρ : Rho} {H H' : Hp} : ∀ {vs : List V} {ps : List PV}, Paired (RepM K O0 σ ρ .s H H') vs ps → Reps K H' (OO O0 σ ρ) vs ps
  | _, _, .nil => .nil
  | _, _, .cons h r => .cons h (reps_of r)
theorem same_new {H : Hp} {p : Addr} {o : HO} (h : H p = none) : Same H (upd H p o) := fun b x z => by
  rw [upd_ne (ne_of_none z h)]; exact z
def tupP (ps : List PV) : R PV := if ps.length ≤ sizeLine then .ok (.tup ps) else .stuck
def lstP (ps : List PV) : R PV := if ps.length ≤ sizeLine then .ok (.lst ps) else .stuck
def eD (g : List PV → R PV) (f : Rho → R (List PV)) : Rho → R PV := fun ρ => (f ρ).bind g
theorem new_tup {K : PySem.W.Frag} {H0 H H1 : Hp} {O0 : Addr → Prop} {σ : St} {ρ : Rho} (S : StR K H0 O0 H1 σ ρ) {vs : List V} {ps : List PV} (r : Reps K H1 (OO O0 σ ρ) vs ps) {p : Addr} (hp : H1 p = none) : Rep K (upd H1 p (.tup vs)) (OO O0 σ ρ) (.ref p) (.tup ps) :=
  .tup (.inl ⟨upd_same, fun z => S.there z hp⟩) (r.same (same_new hp))
theorem new_lst {K : PySem.W.Frag} {H0 H H1 : Hp} {O0 : Addr → Prop} {σ : St} {ρ : Rho} (s : Same H H1) {vs : List V} {ps : List PV} (r : Reps K H1 (OO O0 σ ρ) vs ps) {p : Addr} (hp : H1 p = none) : RepM K O0 σ ρ .f H (upd H1 p (.lst vs)) (.ref p) (.lst ps) :=
  .inr ⟨p, vs, ps, rfl, rfl, s.free hp, upd_same, r.mono fun b o hb nb => ⟨same_new hp b o hb, fun z => z.elim nb fun z => by rw [z, hp] at hb; cases hb⟩⟩
theorem e_tup {k : Nat} (h : AJ X W .s es fA) : EJ X W .s (.Tuple es k pos) (eD tupP fA) := by
  refine pe_imp (pe_tup h) fun σ H Q ⟨H0, O0, ρ, S, G⟩ => ⟨H0, O0, ρ, S, ?_⟩
  revert G
  unfold eD
  cases fA ρ with
  | stuck => exact False.elim
  | exc c => exact id
  | ok ps =>
    intro G vs H1 s1 r1
    have rr := reps_of r1
    revert G
    rw [R.bind_ok]
    unfold tupP
    split
    · rename_i hz
      exact fun G => ⟨by rw [rr.length]; exact hz, fun p hp => G _ _ (s1.trans (same_new hp)) (new_tup (H := H) (S.step s1) rr hp)⟩
    · exact False.elim
theorem e_lst (h : AJ X W .s es fA) : EJ X W .f (.List es pos) (eD lstP fA) := by
  refine pe_imp (pe_lst h) fun σ H Q ⟨H0, O0, ρ, S, G⟩ => ⟨H0, O0, ρ, S, ?_⟩
  revert G
  unfold eD
  cases fA ρ with
  | stuck => exact False.elim
  | exc c => exact id
  | ok ps =>
    intro G vs H1 s1 r1
    have rr := reps_of r1
    revert G
    rw [R.bind_ok]
    unfold lstP
    split
    · rename_i hz
      exact fun G => ⟨by rw [rr.length]; exact hz, fun p hp => G _ _ (s1.trans (same_new hp)) (new_lst (H0 := H0) s1 rr hp)⟩
    · exact False.elim
theorem e_callB {x : Str} {p : Pos} {id : String} {r : List V → Hp → VK → Prop} {g' : List PV → R PV} (hc : CallR X (.builtin id) r) (hgn : ∀ ps c, g' ps ≠ .exc c) (ho : CallS X.K r m1 m g') (hg : Gl X x) (hm : X.mg x = none) (hv : bootBuiltins x = some (.builtin id)) (ha : AJ X W m1 (e :: es) fA) (hn : x ≠ "__name__" := by decide) (hdb : (x == ("__debug__" : Str)) = false := by decide)
    (he : starEach (e :: es) X.env = (false, eval e X.env) :: starEach es X.env := by rfl) (hpl : (backTo pos (starEach es X.env)).any (·.1) = false := by rfl) : EJ X W m (.Call (.Name x p) (e :: es) [] pos) (eD g' fA) := by
  refine pe_imp (pe_callB hc hg hm hv ha hn hdb he hpl) fun σ H Q ⟨H0, O0, ρ, S, G⟩ => ⟨H0, O0, ρ, S, ?_⟩
  revert G
  unfold eD
  cases fA ρ with
  | stuck => exact False.elim
  | exc c => exact fun G => G
  | ok ps => exact fun G vs H1 s1 r1 => ho S s1 r1 (Got.v (hgn ps) s1 G)
theorem e_callTy {x : Str} {p : Pos} {T : String} {r : List V → Hp → VK → Prop} {g' : List PV → R PV} (hc : CallR X (.type T) r) (hgn : ∀ ps c, g' ps ≠ .exc c) (ho : CallS X.K r m1 m g') (hg : Gl X x) (hm : X.mg x = none) (hv : bootBuiltins x = some (.type T)) (ha : AJ X W m1 (e :: es) fA) (hn : x ≠ "__name__" := by decide) (hdb : (x == ("__debug__" : Str)) = false := by decide)
    (he : starEach (e :: es) X.env = (false, eval e X.env) :: starEach es X.env := by rfl) (hpl : (backTo pos (starEach es X.env)).any (·.1) = false := by rfl) : EJ X W m (.Call (.Name x p) (e :: es) [] pos) (eD g' fA) := by
  refine pe_imp (pe_callTy hc hg hm hv ha hn hdb he hpl) fun σ H Q ⟨H0, O0, ρ, S, G⟩ => ⟨H0, O0, ρ, S, ?_⟩
  revert G
  unfold eD
  cases fA ρ with
  | stuck => exact False.elim
  | exc c => exact fun G => G
  | ok ps => exact fun G vs H1 s1 r1 => ho S s1 r1 (Got.v (hgn ps) s1 G)
def RepR (K : PySem.W.Frag) (O : Addr → Prop) : Bool → Hp → Hp → V → PV → Prop
  | false, _, H', v, p => Rep K H' O v p
  | true, H, H', v, p => (v = .non ∧ p = .non) ∨ ∃ a vs ps, v = .ref a ∧ p = .lst ps ∧ H a = none ∧ H' a = some (.lst vs) ∧ Reps K H' (fun b => O b ∨ b = a) vs ps
/-- the def's promise: n arguments; the function of their values; whether what it hands back is a new list -/
def spF (K : PySem.W.Frag) (mg : Str → Option Value) (n : Nat) (nw : Bool) (F : List PV → R PV) : Sp := fun vs H Q E =>
  ∃ ps O, (∀ a, O a → H a ≠ none) ∧ Reps K H O vs ps ∧ vs.length = n ∧ (match F ps with
    | .ok p => ∀ v H', Same H H' → RepR K O nw H H' v p → Q v H'
    | .exc c => ∀ C H', Same H H' → mg c = some (.ref C) → E (.ref C) none H'
    | .stuck => False)
def mdR : Bool → Md | false => .s | true => .f
theorem e_call {x : Str} {p : Pos} {k : Nat} {fa : Addr} {fd : FuncData} {pn : List Str} {n : Nat} {nw : Bool} {F : List PV → R PV} {dvs : List V} {dps : List PV} {ds : List Value} (Fo : FnOk X.prog X.w X.K X.mg X.base (L2N.CX X.prog X.w) k fa fd pn (spF X.K X.mg n nw F)) (hr : Room k X.A) (hg : Gl X x) (hm : X.mg x = some (.ref fa))
    (hk : PySem.W.keepIn X.K (.ref fa) = true) (hb : L2.Binds X.K fd pn ds) (hd : Vals dvs ds) (hdp : ∀ H O, Reps X.K H O dvs dps) (tk : L2N.Takes X W) (ha : AJ X W .s (e :: es) fA) (hlen : n = es.length + 1 + dvs.length := by rfl) (hal : ∀ ρ ps, fA ρ = .ok ps → ps.length = es.length + 1) (hdb : (x == ("__debug__" : Str)) = false := by decide)
    (he : starEach (e :: es) X.env = (false, eval e X.env) :: starEach es X.env := by rfl) (hpl : (backTo pos (starEach es X.env)).any (·.1) = false := by rfl) : EJ X W (mdR nw) (.Call (.Name x p) (e :: es) [] pos) (eD (fun ps => F (ps ++ dps)) fA) := by
  refine pe_imp (pe_callSD (E := fun σ cls d H => W cls d σ H) Fo hr hg hm hk hb hd (fun σ => L2N.passAt tk σ) ha hdb he hpl) fun σ H Q ⟨H0, O0, ρ, S, G⟩ => ⟨H0, O0, ρ, S, ?_⟩
  revert G
  unfold eD
  cases hA : fA ρ with
  | stuck => exact False.elim
  | exc c => exact id
  | ok ps =>
    intro G vs H1 s1 r1
    have rr := reps_of r1
    refine ⟨ps ++ dps, OO O0 σ ρ, fun a z => (S.step s1).there z, rr.append (hdp _ _), ?_, ?_⟩
    · rw [List.length_append, rr.length, hal ρ ps hA, hlen]
    · revert G
      rw [R.bind_ok]
      cases F (ps ++ dps) with
      | stuck => exact id
      | exc c => exact fun G C H' s' e => G C H' (s1.trans s') e
      | ok p =>
        intro G v H' s' r'
        refine G v H' (s1.trans s') ?_
        cases nw with
        | false => exact r'
        | true =>
          rcases r' with z | ⟨a, vs', ps', q1, q2, q3, q4, q5⟩
          · exact .inl z
          · exact .inr ⟨a, vs', ps', q1, q2, s1.free q3, q4, q5⟩
end
end PL
set_option Elab.async false
set_option linter.all false
set_option maxRecDepth 100000
set_option autoImplicit false
namespace PL
open PySem PySem.Spec L2
open PyProof.Rows hiding St
section
variable {K : PySem.W.Frag} {H0 H H1 H2 : Hp} {O0 : Addr → Prop} {σ : St} {ρ : Rho} {x : V} {p : PV}
theorem rt_int {i : Int} (r : RepM K O0 σ ρ .t H H2 x (.int i)) : x = .int i := by
  rcases r with r | ⟨_, _, _, _, e, _⟩
  · cases r; rfl
  · cases e
theorem rt_bl {i : Bool} (r : RepM K O0 σ ρ .t H H2 x (.bl i)) : x = .bl i := by
  rcases r with r | ⟨_, _, _, _, e, _⟩
  · cases r; rfl
  · cases e
theorem rt_str {i : Str} (r : RepM K O0 σ ρ .t H H2 x (.str i)) : x = .str i := by
  rcases r with r | ⟨_, _, _, _, e, _⟩
  · cases r; rfl
  · cases e
theorem rt_lst {l : List PV} (r : RepM K O0 σ ρ .t H H2 x (.lst l)) : ∃ a vs, x = .ref a ∧ H2 a = some (.lst vs) ∧ Reps K H2 (OO O0 σ ρ) vs l := by
  rcases r with r | ⟨a, vs, ps, e1, e2, e3, e4⟩
  · cases r with
    | lst h _ r => exact ⟨_, _, rfl, h, r⟩
  · cases e2; exact ⟨a, vs, e1, e3, e4⟩
theorem sqT_of {O : Addr → Prop} {a : Addr} {xs : List V} (h : H a = some (.tup xs) ∧ ¬ O a ∨ KT K a xs) : SqT K H a xs := by
  rcases h with ⟨h, _⟩ | h
  · exact .inl (.inl h)
  · exact h.sq
theorem rt_tup {l : List PV} (r : RepM K O0 σ ρ .t H H2 x (.tup l)) : ∃ a vs, x = .ref a ∧ (H2 a = some (.tup vs) ∧ ¬ OO O0 σ ρ a ∨ KT K a vs) ∧ Reps K H2 (OO O0 σ ρ) vs l := by
  rcases r with r | ⟨a, vs, ps, e1, e2, e3, e4⟩
  · cases r with
    | tup h r => exact ⟨_, _, rfl, h, r⟩
  · cases e2
theorem rt_frz {l : List PV} (r : RepM K O0 σ ρ .t H H2 x (.frz l)) : ∃ (a : Addr) (ns : List Int), x = .ref a ∧ l = ns.map PV.int ∧ SqL K H2 a (ns.map V.int) := by
  rcases r with r | ⟨a, vs, ps, e1, e2, e3, e4⟩
  · generalize hl : PV.frz l = q at r
    cases r with
    | frz h =>
      cases hl
      refine ⟨_, _, rfl, rfl, ?_⟩
      rcases h with ⟨⟨o, h⟩, _⟩ | h
      · exact .inl (.inr ⟨o, h⟩)
      · exact h _
    | _ => cases hl
  · cases e2
end
def addP : PV → PV → R PV
  | .int a, .int b => .ok (.int (a + b))
  | .str a, .str b => if a.length + b.length ≤ sizeLine then .ok (.str (a ++ b)) else .stuck
  | .tup a, .tup b => if a.length + b.length ≤ sizeLine then .ok (.tup (a ++ b)) else .stuck
  | .lst a, .lst b => if a.length + b.length ≤ sizeLine then .ok (.lst (a ++ b)) else .stuck
  | _, _ => .stuck
theorem addP_exc (p q : PV) (c : Str) : addP p q ≠ .exc c := by
  unfold addP; split <;> (try split) <;> exact fun z => nomatch z
def rAddP (K : PySem.W.Frag) : R2 := fun x y H Q => rI0 (fun i j => .int (i + j)) x y H Q ∨ (∃ i j, x = .str i ∧ y = .str j ∧ i.length + j.length ≤ sizeLine ∧ Q (.str (i ++ j)) H) ∨ rCatA K x y H Q ∨ rCat x y H Q
theorem op_addP {X : Cx} : OpR X (binaryOp .Add) (rAddP X.K) := op_add.or (op_add_str.or (op_catA.or op_cat))
theorem cat_s {K : PySem.W.Frag} {H0 H H2 : Hp} {O0 : Addr → Prop} {σ : St} {ρ : Rho} {x y : V} {a b : List PV} {Q : VK} (S : StR K H0 O0 H σ ρ) (s : Same H H2) (rx : RepM K O0 σ ρ .t H H2 x (.lst a)) (ry : RepM K O0 σ ρ .t H H2 y (.lst b))
    (hz : a.length + b.length ≤ sizeLine) (G : ∀ v H', Same H2 H' → RepM K O0 σ ρ .f H H' v (.lst (a ++ b)) → Q v H') : rCat x y H2 Q := by
  obtain ⟨c, vs, rfl, h1, r1⟩ := rt_lst rx
  obtain ⟨d, ws, rfl, h2, r2⟩ := rt_lst ry
  exact ⟨c, d, vs, ws, rfl, rfl, h1, h2, by rw [r1.length, r2.length]; exact hz, fun l hl => G _ _ (same_new hl) (new_lst (H0 := H0) s (r1.append r2) hl)⟩
theorem s_addP (K : PySem.W.Frag) : OpS K (rAddP K) .t .t .s addP := by
  intro H0 O0 σ ρ H H2 x y p q Q S s rx ry G
  unfold addP at G
  split at G
  · rw [rt_int rx, rt_int ry]; exact .inl ⟨_, _, rfl, rfl, G _ _ (Same.refl _) (.int _)⟩
  · split at G
    · rename_i hz
      rw [rt_str rx, rt_str ry]; exact .inr (.inl ⟨_, _, rfl, rfl, hz, G _ _ (Same.refl _) (.str _)⟩)
    · exact G.elim
  · split at G
    · rename_i hz
      obtain ⟨c, vs, rfl, h1, r1⟩ := rt_tup rx
      obtain ⟨d, ws, rfl, h2, r2⟩ := rt_tup ry
      refine .inr (.inr (.inl ⟨c, d, vs, ws, rfl, rfl, sqT_of h1, sqT_of h2, by rw [r1.length, r2.length]; exact hz, fun e => ?_, fun _ e => ?_, fun _ _ l hl => ?_⟩))
      · subst e
        cases r1
        exact G _ _ (Same.refl _) (.tup h2 r2)
      · subst e
        cases r2
        rw [List.append_nil] at G
        exact G _ _ (Same.refl _) (.tup h1 r1)
      · exact G _ _ (same_new hl) (new_tup (H := H) (S.step s) (r1.append r2) hl)
    · exact G.elim
  · split at G
    · rename_i hz
      exact .inr (.inr (.inr (cat_s S s rx ry hz fun v H' s' r' => G v H' s' (RepM.f_s S r'))))
    · exact G.elim
  · exact G.elim
/-- an operation of two ints -/
def intP (c : Int → Int → Bool) (g : Int → Int → PV) : PV → PV → R PV
  | .int a, .int b => if c a b = true then .ok (g a b) else .stuck
  | _, _ => .stuck
theorem intP_exc {c : Int → Int → Bool} {g : Int → Int → PV} (p q : PV) (k : Str) : intP c g p q ≠ .exc k := by
  unfold intP; split <;> (try split) <;> exact fun z => nomatch z
theorem s_int {K : PySem.W.Frag} {C : Int → Int → Prop} {c : Int → Int → Bool} {gv : Int → Int → V} {g : Int → Int → PV} (hc : ∀ a b, c a b = true → C a b) (hr : ∀ H O a b, Rep K H O (gv a b) (g a b)) : OpS K (rI C gv) .t .t .s (intP c g) := by
  intro H0 O0 σ ρ H H2 x y p q Q S s rx ry G
  unfold intP at G
  split at G
  · split at G
    · rename_i hz
      rw [rt_int rx, rt_int ry]; exact ⟨_, _, rfl, rfl, hc _ _ hz, G _ _ (Same.refl _) (hr _ _ _ _)⟩
    · exact G.elim
  · exact G.elim
theorem s_int0 {K : PySem.W.Frag} {gv : Int → Int → V} {g : Int → Int → PV} (hr : ∀ H O a b, Rep K H O (gv a b) (g a b)) : OpS K (rI0 gv) .t .t .s (intP (fun _ _ => true) g) := by
  intro H0 O0 σ ρ H H2 x y p q Q S s rx ry G
  unfold intP at G
  split at G
  · rw [if_pos rfl] at G
    rw [rt_int rx, rt_int ry]; exact ⟨_, _, rfl, rfl, G _ _ (Same.refl _) (hr _ _ _ _)⟩
  · exact G.elim
abbrev subP := intP (fun _ _ => true) fun a b => .int (a - b)
abbrev okMul (a b : Int) : Bool := decide (a.natAbs.log2 + b.natAbs.log2 < 100000000)
/-- factors of together less than a hundred million bits -/
def CMulV (i j : Int) : Prop := i.natAbs.log2 + j.natAbs.log2 < 100000000
theorem CMulV.okM {i j : Int} (h : CMulV i j) : IntMulOk i j := by
  have b : ∀ y : Int, Builtin.Int.intBits y ≤ y.natAbs.log2 + 1 := fun y => by unfold Builtin.Int.intBits; split <;> omega
  have h1 := b i
  have h2 := b j
  unfold CMulV at h
  exact CMulX.ok (show CMulX i j by unfold CMulX; omega)
theorem op_mulV {X : Cx} : OpR X (binaryOp .Mult) (rI CMulV fun i j => .int (i * j)) := opI fun _ _ _ _ _ _ _ hc q => mul_int q hc.okM
abbrev mulP := intP okMul fun a b => .int (a * b)
abbrev okDiv (_ b : Int) : Bool := decide (b ≠ 0) && decide (b.natAbs.log2 < 9000)
abbrev fdivP := intP okDiv fun a b => .int (a.fdiv b)
abbrev modP := intP (fun _ b => decide (b ≠ 0)) fun a b => .int (a.fmod b)
abbrev okPow (a b : Int) : Bool := decide (0 ≤ b) && decide (b ≤ 1000000) && decide (a.natAbs < 2 ^ 64)
abbrev powP := intP okPow fun a b => .int (a ^ b.toNat)
abbrev ltP := intP (fun _ _ => true) fun a b => .bl (decide (a < b))
abbrev leP := intP (fun _ _ => true) fun a b => .bl (decide (a ≤ b))
abbrev gtP := intP (fun _ _ => true) fun a b => .bl (decide (b < a))
abbrev geP := intP (fun _ _ => true) fun a b => .bl (decide (b ≤ a))
def CDivA (i j : Int) : Prop := j ≠ 0 ∧ j.natAbs.log2 < 9000
theorem op_fdivA {X : Cx} : OpR X (binaryOp .FloorDiv) (rI CDivA fun i j => .int (i.fdiv j)) := opI fun i j _ _ _ _ _ hc q => floordiv_int hc.1 q (.inl (PyProof.noPylong_of_log2 hc.2))
theorem iop_mulW {X : Cx} : OpR X (inplaceOp .Mult) (rI CMulV fun i j => .int (i * j)) := opI fun _ _ _ _ _ _ _ hc q => imul_int q hc.okM
theorem okDiv_C (a b : Int) (h : okDiv a b = true) : CDivA a b := by
  rw [Bool.and_eq_true, decide_eq_true_eq, decide_eq_true_eq] at h; exact h
theorem okPow_C (a b : Int) (h : okPow a b = true) : CPow a b := by
  rw [Bool.and_eq_true, Bool.and_eq_true, decide_eq_true_eq, decide_eq_true_eq, decide_eq_true_eq] at h; exact ⟨h.1.1, h.1.2, h.2⟩
section
variable {X : Cx} {W : WX} {e a b c : Expr} {pos : Pos} {m : Md} {f g h : Rho → R PV}
theorem e_add (ha : EJ X W .t a f) (hb : EJ X W .t b g) : EJ X W .s (.BinOp a .Add b pos) (e2 addP f g) := e_op op_addP addP_exc (s_addP _) ha hb
theorem e_sub (ha : EJ X W .t a f) (hb : EJ X W .t b g) : EJ X W .s (.BinOp a .Sub b pos) (e2 subP f g) := e_op op_sub intP_exc (s_int0 fun _ _ _ _ => .int _) ha hb
theorem e_mul (ha : EJ X W .t a f) (hb : EJ X W .t b g) : EJ X W .s (.BinOp a .Mult b pos) (e2 mulP f g) := e_op op_mulV intP_exc (s_int (fun _ _ h => of_decide_eq_true h) fun _ _ _ _ => .int _) ha hb
theorem e_fdiv (ha : EJ X W .t a f) (hb : EJ X W .t b g) : EJ X W .s (.BinOp a .FloorDiv b pos) (e2 fdivP f g) := e_op op_fdivA intP_exc (s_int okDiv_C fun _ _ _ _ => .int _) ha hb
theorem e_mod (ha : EJ X W .t a f) (hb : EJ X W .t b g) : EJ X W .s (.BinOp a .Mod b pos) (e2 modP f g) := e_op op_modN intP_exc (s_int (fun _ _ h => of_decide_eq_true h) fun _ _ _ _ => .int _) ha hb
theorem e_pow (ha : EJ X W .t a f) (hb : EJ X W .t b g) : EJ X W .s (.BinOp a .Pow b pos) (e2 powP f g) := e_op op_pow intP_exc (s_int okPow_C fun _ _ _ _ => .int _) ha hb
theorem e_lt (ha : EJ X W .t a f) (hb : EJ X W .t b g) : EJ X W .s (.Compare a [.Lt] [b] pos) (e2 ltP f g) := e_cmp op_lt intP_exc (s_int0 fun _ _ _ _ => .bl _) ha hb (nomark _)
theorem e_le (ha : EJ X W .t a f) (hb : EJ X W .t b g) : EJ X W .s (.Compare a [.LtE] [b] pos) (e2 leP f g) := e_cmp op_le intP_exc (s_int0 fun _ _ _ _ => .bl _) ha hb (nomark _)
theorem e_gt (ha : EJ X W .t a f) (hb : EJ X W .t b g) : EJ X W .s (.Compare a [.Gt] [b] pos) (e2 gtP f g) := e_cmp op_gt intP_exc (s_int0 fun _ _ _ _ => .bl _) ha hb (nomark _)
theorem e_ge (ha : EJ X W .t a f) (hb : EJ X W .t b g) : EJ X W .s (.Compare a [.GtE] [b] pos) (e2 geP f g) := e_cmp op_ge intP_exc (s_int0 fun _ _ _ _ => .bl _) ha hb (nomark _)
theorem t_lt (ha : EJ X W .t a f) (hb : EJ X W .t b g) : TJ X W (.Compare a [.Lt] [b] pos) (tB1 (e2 ltP f g)) := t_cmp op_lt intP_exc (s_int0 fun _ _ _ _ => .bl _) ha hb (nomark _)
theorem t_gt (ha : EJ X W .t a f) (hb : EJ X W .t b g) : TJ X W (.Compare a [.Gt] [b] pos) (tB1 (e2 gtP f g)) := t_cmp op_gt intP_exc (s_int0 fun _ _ _ _ => .bl _) ha hb (nomark _)
def negP : PV → R PV
  | .int a => .ok (.int (-a))
  | _ => .stuck
theorem e_neg (ha : EJ X W .t a f) : EJ X W .s (.UnaryOp .USub a pos) (e1 negP f) := by
  refine e_un un_neg (fun p c => ?_) ?_ ha
  · unfold negP; split <;> exact fun z => nomatch z
  · intro H0 O0 σ ρ H H2 x p Q S s rx G
    unfold negP at G
    split at G
    · rw [rt_int rx]; exact ⟨_, rfl, G _ _ (Same.refl _) (.int _)⟩
    · exact G.elim
end
mutual
def toD : PV → PyData
  | .non => .none
  | .bl b => .bool b
  | .int i => .int i
  | .str s => .str s
  | .tup l => .tuple (toDs l)
  | .lst l => .list (toDs l)
  | .frz l => .list (toDs l)
  | .dct | .dt _ | .obj _ _ _ => .dict []
def toDs : List PV → List PyData
  | [] => []
  | p :: ps => toD p :: toDs ps
end
mutual
def eqV' : PV → PV → Bool
  | .non, .non => true
  | .bl a, .bl b => a == b
  | .bl a, .int j => (if a then 1 else 0) == j
  | .int i, .bl b => i == (if b then 1 else 0)
  | .int i, .int j => i == j
  | .str x, .str y => x == y
  | .lst xs, .lst ys => eqVs xs ys
  | .lst xs, .frz ys => eqVs xs ys
  | .frz xs, .lst ys => eqVs xs ys
  | .frz xs, .frz ys => eqVs xs ys
  | .tup xs, .tup ys => eqVs xs ys
  | _, _ => false
def eqVs : List PV → List PV → Bool
  | [], [] => true
  | x :: xs, y :: ys => eqV' x y && eqVs xs ys
  | _, _ => false
end
/-- data that may be compared, by how deep it is -/
def okD : Nat → PV → Bool
  | _, .non => true
  | _, .bl _ => true
  | _, .int _ => true
  | _, .str s => PySem.PyData.strOk s
  | n + 1, .tup l => l.all (okD n)
  | n + 1, .lst l => l.all (okD n)
  | n + 1, .frz l => l.all (okD n)
  | _, _ => false
def eqP (p q : PV) : R PV := if (okD 30 p && okD 30 q) = true then .ok (.bl (eqV' p q)) else .stuck
def neP (p q : PV) : R PV := if (okD 30 p && okD 30 q) = true then .ok (.bl (!eqV' p q)) else .stuck
mutual
theorem eqv_toD : ∀ p q : PV, PyData.eqv (toD p) (toD q) = eqV' p q
  | .lst a, .lst b | .lst a, .frz b | .frz a, .lst b | .frz a, .frz b | .tup a, .tup b => by simp only [toD, PyData.eqv, eqV', eqv_toDs a b]
  | .non, q | .bl _, q | .int _, q | .str _, q | .dct, q | .dt _, q | .obj _ _ _, q => by cases q <;> simp only [toD, PyData.eqv, eqV']
  | .lst a, .non | .lst a, .bl _ | .lst a, .int _ | .lst a, .str _ | .lst a, .tup _ | .lst a, .dct | .lst a, .dt _ | .lst a, .obj _ _ _ => by simp only [toD, PyData.eqv, eqV']
  | .frz a, .non | .frz a, .bl _ | .frz a, .int _ | .frz a, .str _ | .frz a, .tup _ | .frz a, .dct | .frz a, .dt _ | .frz a, .obj _ _ _ => by simp only [toD, PyData.eqv, eqV']
  | .tup a, .non | .tup a, .bl _ | .tup a, .int _ | .tup a, .str _ | .tup a, .lst _ | .tup a, .frz _ | .tup a, .dct | .tup a, .dt _ | .tup a, .obj _ _ _ => by simp only [toD, PyData.eqv, eqV']
theorem eqv_toDs : ∀ p q : List PV, PyData.eqvAll (toDs p) (toDs q) = eqVs p q
  | [], [] => by simp only [toDs, PyData.eqvAll, eqVs]
  | x :: xs, y :: ys => by simp only [toDs, PyData.eqvAll, eqVs, eqv_toD x y, eqv_toDs xs ys]
  | [], _ :: _ => by simp only [toDs, PyData.eqvAll, eqVs]
  | _ :: _, [] => by simp only [toDs, PyData.eqvAll, eqVs]
end
mutual
theorem okD_lay : ∀ (n : Nat) (p : PV), okD n p = true → (toD p).canLay0 = true ∧ (toD p).depth ≤ n
  | n, .non, _ => ⟨rfl, Nat.zero_le _⟩
  | n, .bl _, _ => ⟨rfl, Nat.zero_le _⟩
  | n, .int _, _ => ⟨rfl, Nat.zero_le _⟩
  | n, .str s, h => ⟨by simpa only [toD, PyData.canLay0, okD] using h, Nat.zero_le _⟩
  | n, .dct, h | n, .dt _, h | n, .obj _ _ _, h => by simp [okD] at h
  | 0, .tup l, h => by simp [okD] at h
  | 0, .lst l, h => by simp [okD] at h
  | 0, .frz l, h => by simp [okD] at h
  | n + 1, .tup l, h => by
    have z := okDs_lay n l (by simpa only [okD] using h)
    simp only [toD, PyData.canLay0, PyData.depth]
    exact ⟨z.1, by omega⟩
  | n + 1, .lst l, h => by
    have z := okDs_lay n l (by simpa only [okD] using h)
    simp only [toD, PyData.canLay0, PyData.depth]
    exact ⟨z.1, by omega⟩
  | n + 1, .frz l, h => by
    have z := okDs_lay n l (by simpa only [okD] using h)
    simp only [toD, PyData.canLay0, PyData.depth]
    exact ⟨z.1, by omega⟩
theorem okDs_lay : ∀ (n : Nat) (l : List PV), l.all (okD n) = true → PyData.canLayAll0 (toDs l) = true ∧ PyData.depthAll (toDs l) ≤ n
  | n, [], _ => ⟨rfl, Nat.zero_le _⟩
  | n, p :: ps, h => by
    rw [List.all_cons, Bool.and_eq_true] at h
    have z1 := okD_lay n p h.1
    have z2 := okDs_lay n ps h.2
    simp only [toDs, PyData.canLayAll0, PyData.depthAll, z1.1, z2.1]
    exact ⟨rfl, Nat.max_le.mpr ⟨z1.2, z2.2⟩⟩
end
theorem okD_shaped {p : PV} (h : okD 30 p = true) : SeqAt.shaped (toD p) = true := by
  have z := okD_lay 30 p h
  unfold SeqAt.shaped
  rw [z.1, decide_eq_true (show (toD p).depth ≤ 64 by omega)] <;> rfl
theorem dpAll_ints {K : PySem.W.Frag} {H : Hp} : ∀ ns : List Int, DpAll K H (ns.map V.int) (toDs (ns.map PV.int))
  | [] => by simp only [List.map_nil, toDs]; exact .nil
  | n :: ns => by simp only [List.map_cons, toDs, toD]; exact .cons (.int n) (dpAll_ints ns)
mutual
theorem rep_dp {K : PySem.W.Frag} {H : Hp} {O : Addr → Prop} : ∀ {v : V} {p : PV} (n : Nat), Rep K H O v p → okD n p = true → Dp K H v (toD p)
  | _, _, _, .non, _ => by simp only [toD]; exact .non
  | _, _, _, .bl b, _ => by simp only [toD]; exact .bl b
  | _, _, _, .int i, _ => by simp only [toD]; exact .int i
  | _, _, _, .str s, _ => by simp only [toD]; exact .str s
  | _, _, 0, .lst _ _ _, h => by simp [okD] at h
  | _, _, n + 1, .lst h1 _ r, h => by simp only [toD]; exact .lst (.inl (.inl h1)) (reps_dp n r (by simpa only [okD] using h))
  | _, _, 0, .tup _ _, h => by simp [okD] at h
  | _, _, n + 1, .tup h1 r, h => by simp only [toD]; exact .tup (sqT_of h1) (reps_dp n r (by simpa only [okD] using h))
  | _, _, _, .frz h1, h => by
    simp only [toD]
    refine .lst ?_ (dpAll_ints _)
    rcases h1 with ⟨⟨o, h1⟩, _⟩ | h1
    · exact .inl (.inr ⟨o, h1⟩)
    · exact h1 _
  | _, _, n, .dct _ _, h | _, _, n, .dt _ _, h | _, _, n, .obj _ _ _ _ _, h => by simp [okD] at h
theorem reps_dp {K : PySem.W.Frag} {H : Hp} {O : Addr → Prop} : ∀ {v : List V} {p : List PV} (n : Nat), Reps K H O v p → p.all (okD n) = true → DpAll K H v (toDs p)
  | _, _, _, .nil, _ => by simp only [toDs]; exact .nil
  | _, _, n, .cons h r, hz => by
    rw [List.all_cons, Bool.and_eq_true] at hz
    simp only [toDs]
    exact .cons (rep_dp n h hz.1) (reps_dp n r hz.2)
end
theorem rt_dp {K : PySem.W.Frag} {H H2 : Hp} {O0 : Addr → Prop} {σ : St} {ρ : Rho} {x : V} {p : PV} (r : RepM K O0 σ ρ .t H H2 x p) (h : okD 30 p = true) : Dp K H2 x (toD p) := by
  rcases r with r | ⟨a, vs, ps, rfl, rfl, e3, e4⟩
  · exact rep_dp 30 r h
  · simp only [toD]; exact .lst (.inl (.inl e3)) (reps_dp 29 e4 (by simpa only [okD] using h))
theorem eqP_exc (p q : PV) (c : Str) : eqP p q ≠ .exc c := by unfold eqP; split <;> exact fun z => nomatch z
theorem neP_exc (p q : PV) (c : Str) : neP p q ≠ .exc c := by unfold neP; split <;> exact fun z => nomatch z
theorem s_eq (K : PySem.W.Frag) : OpS K (rEqD K) .t .t .s eqP := by
  intro H0 O0 σ ρ H H2 x y p q Q S s rx ry G
  unfold eqP at G
  split at G
  · rename_i hz
    rw [Bool.and_eq_true] at hz
    exact ⟨_, _, rt_dp rx hz.1, rt_dp ry hz.2, okD_shaped hz.1, okD_shaped hz.2, by rw [eqv_toD]; exact G _ _ (Same.refl _) (.bl _)⟩
  · exact G.elim
theorem s_ne (K : PySem.W.Frag) : OpS K (rNeD K) .t .t .s neP := by
  intro H0 O0 σ ρ H H2 x y p q Q S s rx ry G
  unfold neP at G
  split at G
  · rename_i hz
    rw [Bool.and_eq_true] at hz
    exact ⟨_, _, rt_dp rx hz.1, rt_dp ry hz.2, okD_shaped hz.1, okD_shaped hz.2, by rw [eqv_toD]; exact G _ _ (Same.refl _) (.bl _)⟩
  · exact G.elim
section
variable {X : Cx} {W : WX} {e a b c : Expr} {pos : Pos} {m : Md} {f g h : Rho → R PV}
theorem e_eq (hu : X.A.units + 64 < cLine) (ha : EJ X W .t a f) (hb : EJ X W .t b g) : EJ X W .s (.Compare a [.Eq] [b] pos) (e2 eqP f g) := e_cmp (op_eqD hu) eqP_exc (s_eq _) ha hb (nomark _)
theorem e_ne (hu : X.A.units + 64 < cLine) (ha : EJ X W .t a f) (hb : EJ X W .t b g) : EJ X W .s (.Compare a [.NotEq] [b] pos) (e2 neP f g) := e_cmp (op_neD hu) neP_exc (s_ne _) ha hb (nomark _)
theorem t_eq (hu : X.A.units + 64 < cLine) (ha : EJ X W .t a f) (hb : EJ X W .t b g) : TJ X W (.Compare a [.Eq] [b] pos) (tB1 (e2 eqP f g)) := t_cmp (op_eqD hu) eqP_exc (s_eq _) ha hb (nomark _)
theorem t_ne (hu : X.A.units + 64 < cLine) (ha : EJ X W .t a f) (hb : EJ X W .t b g) : TJ X W (.Compare a [.NotEq] [b] pos) (tB1 (e2 neP f g)) := t_cmp (op_neD hu) neP_exc (s_ne _) ha hb (nomark _)
def eChain (g1 g2 : PV → PV → R PV) (f g h : Rho → R PV) : Rho → R PV := fun ρ => (f ρ).bind fun x => (g ρ).bind fun y => (g1 x y).bind fun z => (asB z).bind fun k => if k = true then (h ρ).bind fun w => g2 y w else .ok (.bl false)
theorem q_chain {r r' : R2} {g1 g2 : PV → PV → R PV} (hg1 : ∀ p q c, g1 p q ≠ .exc c) (hg2 : ∀ p q c, g2 p q ≠ .exc c) (ho : OpS X.K r .t .t .s g1) (ho' : OpS X.K r' .t .t .s g2) :
    ∀ σ H Q, tE X.K X.mg W .s (eChain g1 g2 f g h) σ H Q → tChain r r' (tE X.K X.mg W .t f) (tE X.K X.mg W .t g) (tE X.K X.mg W .t h) σ H Q := by
  intro σ H Q ⟨H0, O0, ρ, S, G⟩
  refine ⟨H0, O0, ρ, S, ?_⟩
  revert G
  unfold eChain
  cases f ρ with
  | stuck => exact False.elim
  | exc c => exact id
  | ok p =>
    intro G x H1 s1 r1
    refine ⟨H0, O0, ρ, S.step s1, ?_⟩
    revert G
    rw [R.bind_ok]
    cases g ρ with
    | stuck => exact False.elim
    | exc c => exact fun G C H' s' => G C H' (s1.trans s')
    | ok q =>
      intro G y H2 s2 r2
      refine ho S (s1.trans s2) (r1.step s2) (r2.back s1) ?_
      revert G
      rw [R.bind_ok]
      cases hz : g1 p q with
      | stuck => exact False.elim
      | exc c => exact absurd hz (hg1 p q c)
      | ok z =>
        intro G v H3 s3 r3
        revert G
        rw [R.bind_ok]
        cases z with
        | bl k =>
          intro G
          cases r3
          refine ⟨k, rfl, ?_⟩
          cases k with
          | false => rw [if_neg Bool.false_ne_true]; exact G _ _ ((s1.trans s2).trans s3) (.bl false)
          | true =>
            rw [if_pos rfl]
            have s123 := (s1.trans s2).trans s3
            refine ⟨H0, O0, ρ, S.step s123, ?_⟩
            have G' : Got X.K X.mg W O0 σ ρ .s H Q ((h ρ).bind fun w => g2 q w) := G
            revert G'
            cases h ρ with
            | stuck => exact False.elim
            | exc c => exact fun G C H' s' => G C H' (s123.trans s')
            | ok w =>
              intro G v H4 s4 r4
              exact ho' S (s123.trans s4) ((r2.back s1).step (s3.trans s4)) (r4.back s123) (Got.v (hg2 q w) (s123.trans s4) G)
        | _ => exact False.elim
theorem e_chain {op op' : CmpOp} {r r' : R2} {g1 g2 : PV → PV → R PV} (hr : OpR X (compareOp op) r) (hr' : OpR X (compareOp op') r') (hg1 : ∀ p q c, g1 p q ≠ .exc c) (hg2 : ∀ p q c, g2 p q ≠ .exc c) (ho : OpS X.K r .t .t .s g1) (ho' : OpS X.K r' .t .t .s g2)
    (ha : EJ X W .t a f) (hb : EJ X W .t b g) (hc : EJ X W .t c h) (hm : lastMarks [op, op'] [b, c] = false) : EJ X W .s (.Compare a [op, op'] [b, c] pos) (eChain g1 g2 f g h) :=
  pe_imp (pe_chain hr hr' ha hb hc hm) (q_chain hg1 hg2 ho ho')
theorem e_leLt (ha : EJ X W .t a f) (hb : EJ X W .t b g) (hc : EJ X W .t c h) (hm : lastMarks [.LtE, .Lt] [b, c] = false := by with_unfolding_all rfl) : EJ X W .s (.Compare a [.LtE, .Lt] [b, c] pos) (eChain leP ltP f g h) :=
  e_chain op_le op_lt intP_exc intP_exc (s_int0 fun _ _ _ _ => .bl _) (s_int0 fun _ _ _ _ => .bl _) ha hb hc hm
end
end PL
set_option Elab.async false
set_option linter.all false
set_option maxRecDepth 100000
set_option autoImplicit false
namespace PL
open PySem PySem.Spec L2
open PyProof.Rows hiding St
def ixP : PV → PV → R PV
  | .lst l, .int i | .tup l, .int i | .frz l, .int i => match atI l i with
    | some p => .ok p
    | none => .stuck
  | .str s, .int i => if s.length ≤ sizeLine then (match atI s.cps.toList i with
    | some c => .ok (.str ⟨#[c]⟩)
    | none => .stuck) else .stuck
  | _, _ => .stuck
theorem ixP_exc (p q : PV) (c : Str) : ixP p q ≠ .exc c := by
  unfold ixP; split <;> (try split) <;> (try split) <;> exact fun z => nomatch z
theorem reps_at {K : PySem.W.Frag} {H : Hp} {O : Addr → Prop} {vs : List V} {ps : List PV} {i : Int} {p : PV} (r : Reps K H O vs ps) (h : atI ps i = some p) : ∃ v, atI vs i = some v ∧ Rep K H O v p := by
  unfold atI at h ⊢
  rw [r.length]
  cases q : ixN ps.length i with
  | none => rw [q] at h; cases h
  | some j =>
    rw [q, Option.bind_some] at h
    rw [Option.bind_some]
    exact r.get h
theorem s_ix (K : PySem.W.Frag) : OpS K (rIx K) .t .t .s ixP := by
  intro H0 O0 σ ρ H H2 x y p q Q S s rx ry G
  unfold ixP at G
  split at G
  · split at G
    · rename_i p hp
      obtain ⟨a, vs, rfl, h1, r1⟩ := rt_lst rx
      obtain ⟨v, h2, r2⟩ := reps_at r1 hp
      exact .inl ⟨a, vs, _, v, rfl, rt_int ry, .inl (.inl h1), h2, G _ _ (Same.refl _) r2⟩
    · exact G.elim
  · split at G
    · rename_i p hp
      obtain ⟨a, vs, rfl, h1, r1⟩ := rt_tup rx
      obtain ⟨v, h2, r2⟩ := reps_at r1 hp
      exact .inr (.inl ⟨a, vs, _, v, rfl, rt_int ry, sqT_of h1, h2, G _ _ (Same.refl _) r2⟩)
    · exact G.elim
  · split at G
    · rename_i p hp
      obtain ⟨a, ns, rfl, rfl, h1⟩ := rt_frz rx
      obtain ⟨v, h2, r2⟩ := reps_at (K := K) (H := H2) (O := OO O0 σ ρ) (Reps.ofInts ns) hp
      exact .inl ⟨a, _, _, v, rfl, rt_int ry, h1, h2, G _ _ (Same.refl _) r2⟩
    · exact G.elim
  · split at G
    · rename_i hz
      split at G
      · rename_i c hc
        exact .inr (.inr ⟨_, _, c, rt_str rx, rt_int ry, hz, hc, G _ _ (Same.refl _) (.str _)⟩)
      · exact G.elim
    · exact G.elim
  · exact G.elim
def cutG {α : Type} (xs : List α) (lo hi : Option Int) : List α := (xs.drop (HT.sIx xs.length 0 lo)).take (HT.sIx xs.length xs.length hi - HT.sIx xs.length 0 lo)
theorem reps_cut {K : PySem.W.Frag} {H : Hp} {O : Addr → Prop} {vs : List V} {ps : List PV} (lo hi : Option Int) (r : Reps K H O vs ps) : Reps K H O (cutV vs lo hi) (cutG ps lo hi) := by
  unfold cutV cutG
  rw [r.length]
  exact (r.drop _).take _
def slP (p : PV) (lo hi : Option Int) : R PV := match p with
  | .lst l | .frz l => .ok (.lst (cutG l lo hi))
  | .tup l => .ok (.tup (cutG l lo hi))
  | .str s => if s.length ≤ sizeLine then .ok (.str (cutS s lo hi)) else .stuck
  | _ => .stuck
def slL (p : PV) (lo hi : Option Int) : R PV := match p with
  | .lst l | .frz l => .ok (.lst (cutG l lo hi))
  | _ => .stuck
def asI : PV → R Int
  | .int i => .ok i
  | _ => .stuck
def oNone : Rho → R (Option Int) := fun _ => .ok none
def oSome (f : Rho → R PV) : Rho → R (Option Int) := fun ρ => (f ρ).bind fun p => (asI p).bind fun i => .ok (some i)
def eSl (g : PV → Option Int → Option Int → R PV) (f : Rho → R PV) (lo hi : Rho → R (Option Int)) : Rho → R PV := fun ρ => (f ρ).bind fun p => (lo ρ).bind fun l => (hi ρ).bind fun h => g p l h
def tO' (K : PySem.W.Frag) (mg : Str → Option Value) (W : WX) (f : Rho → R (Option Int)) : L2.TO := fun σ H Q =>
  ∃ H0 O0 ρ, StR K H0 O0 H σ ρ ∧ (match f ρ with
    | .ok o => ∀ H', Same H H' → Q o H'
    | .exc c => ∀ C H', Same H H' → mg c = some (.ref C) → W (.ref C) none σ H'
    | .stuck => False)
abbrev OJ (X : Cx) (W : WX) (e : Option Expr) (f : Rho → R (Option Int)) : Prop := PO X e (tO' X.K X.mg W f)
def SlS (K : PySem.W.Frag) (r : V → Option Int → Option Int → Hp → VK → Prop) (m : Md) (g : PV → Option Int → Option Int → R PV) : Prop :=
  ∀ {H0 O0 σ ρ H H2 x p lo hi} {Q : VK}, StR K H0 O0 H σ ρ → Same H H2 → RepM K O0 σ ρ .t H H2 x p → GotV K O0 σ ρ m H H2 Q (g p lo hi) → r x lo hi H2 Q
section
variable {X : Cx} {W : WX} {e a b c : Expr} {pos p2 : Pos} {m : Md} {f g h : Rho → R PV} {lo hi : Option Expr} {fl fh : Rho → R (Option Int)}
theorem po_imp {t t' : L2.TO} {e : Option Expr} (h : PO X e t) (q : ∀ σ H Q, t' σ H Q → t σ H Q) : PO X e t' := ⟨fun pins s σ H Q I hw => h.run pins s σ H Q I (q σ H Q hw)⟩
theorem o_none : OJ X W none oNone := by
  refine po_imp po_none fun σ H Q ⟨H0, O0, ρ, S, G⟩ => ?_
  exact G H (Same.refl H)
theorem o_some (ha : EJ X W .s e f) : OJ X W (some e) (oSome f) := by
  refine po_imp (po_some ha) fun σ H Q ⟨H0, O0, ρ, S, G⟩ => ⟨H0, O0, ρ, S, ?_⟩
  revert G
  unfold oSome
  cases f ρ with
  | stuck => exact False.elim
  | exc c => exact fun G => G
  | ok p =>
    cases p with
    | int i => exact fun G v H' s r => by cases r; exact ⟨i, rfl, G H' s⟩
    | _ => exact False.elim
theorem e_sl {r : V → Option Int → Option Int → Hp → VK → Prop} {g' : PV → Option Int → Option Int → R PV} (hr : SlR X r) (hg : ∀ p l h c, g' p l h ≠ .exc c) (ho : SlS X.K r m g') (ha : EJ X W .t a f) (hl : OJ X W lo fl) (hh : OJ X W hi fh) :
    EJ X W m (.Subscript a (.Slice lo hi none p2) pos) (eSl g' f fl fh) := by
  refine pe_imp (pe_slice hr ha hl hh) fun σ H Q ⟨H0, O0, ρ, S, G⟩ => ⟨H0, O0, ρ, S, ?_⟩
  revert G
  unfold eSl
  cases f ρ with
  | stuck => exact False.elim
  | exc c => exact fun G => G
  | ok p =>
    intro G x H1 s1 r1
    refine ⟨H0, O0, ρ, S.step s1, ?_⟩
    revert G
    rw [R.bind_ok]
    cases fl ρ with
    | stuck => exact False.elim
    | exc c => exact fun G C H' s' => G C H' (s1.trans s')
    | ok l =>
      intro G H2 s2
      refine ⟨H0, O0, ρ, S.step (s1.trans s2), ?_⟩
      revert G
      rw [R.bind_ok]
      cases fh ρ with
      | stuck => exact False.elim
      | exc c => exact fun G C H' s' => G C H' ((s1.trans s2).trans s')
      | ok h =>
        intro G H3 s3
        exact ho S ((s1.trans s2).trans s3) (r1.step (s2.trans s3)) (Got.v (hg p l h) ((s1.trans s2).trans s3) G)
def rSlP (K : PySem.W.Frag) : V → Option Int → Option Int → Hp → VK → Prop := fun x lo hi H Q => rSlL K x lo hi H Q ∨ rSlA K x lo hi H Q ∨ rSlS x lo hi H Q
theorem sl_P : SlR X (rSlP X.K) := sl_list.or (sl_tupA.or sl_str)
theorem slP_exc (p : PV) (l h : Option Int) (c : Str) : slP p l h ≠ .exc c := by
  unfold slP; split <;> (try split) <;> exact fun z => nomatch z
theorem slL_exc (p : PV) (l h : Option Int) (c : Str) : slL p l h ≠ .exc c := by
  unfold slL; split <;> exact fun z => nomatch z
theorem sl_ints (ns : List Int) (lo hi : Option Int) : cutV (ns.map V.int) lo hi = (cutG ns lo hi).map V.int ∧ cutG (ns.map PV.int) lo hi = (cutG ns lo hi).map PV.int := by
  unfold cutV cutG
  rw [List.length_map, List.length_map, List.map_take, List.map_drop, List.map_take, List.map_drop]
  exact ⟨rfl, rfl⟩
theorem s_slL (K : PySem.W.Frag) : SlS K (rSlL K) .f slL := by
  intro H0 O0 σ ρ H H2 x p lo hi Q S s rx G
  unfold slL at G
  split at G
  · obtain ⟨a, vs, rfl, h1, r1⟩ := rt_lst rx
    exact ⟨a, vs, rfl, .inl (.inl h1), fun q hq => G _ _ (same_new hq) (new_lst (H0 := H0) s (reps_cut lo hi r1) hq)⟩
  · obtain ⟨a, ns, rfl, rfl, h1⟩ := rt_frz rx
    refine ⟨a, _, rfl, h1, fun q hq => G _ _ (same_new hq) ?_⟩
    rw [(sl_ints ns lo hi).1, (sl_ints ns lo hi).2]
    exact new_lst (H0 := H0) s (Reps.ofInts _) hq
  · exact G.elim
theorem s_slP (K : PySem.W.Frag) : SlS K (rSlP K) .s slP := by
  intro H0 O0 σ ρ H H2 x p lo hi Q S s rx G
  unfold slP at G
  split at G
  · exact .inl (s_slL K S s rx fun v H' s' r => G v H' s' (RepM.f_s S r))
  · exact .inl (s_slL K S s rx fun v H' s' r => G v H' s' (RepM.f_s S r))
  · obtain ⟨a, vs, rfl, h1, r1⟩ := rt_tup rx
    refine .inr (.inl ⟨a, vs, rfl, sqT_of h1, fun ⟨z1, z2⟩ => ?_, fun _ q hq => G _ _ (same_new hq) (new_tup (H := H) (S.step s) (reps_cut lo hi r1) hq)⟩)
    have e : ∀ {α : Type} (l : List α), l.length = vs.length → cutG l lo hi = l := fun l hl => by
      unfold cutG
      rw [hl, z1, z2, List.drop_zero, Nat.sub_zero, ← hl, List.take_length]
    rw [e _ r1.length.symm] at G
    exact G _ _ (Same.refl _) (.tup h1 r1)
  · split at G
    · rename_i hz
      exact .inr (.inr ⟨_, rt_str rx, hz, G _ _ (Same.refl _) (.str _)⟩)
    · exact G.elim
  · exact G.elim
theorem e_slice (ha : EJ X W .t a f) (hl : OJ X W lo fl) (hh : OJ X W hi fh) : EJ X W .s (.Subscript a (.Slice lo hi none p2) pos) (eSl slP f fl fh) := e_sl sl_P slP_exc (s_slP _) ha hl hh
theorem e_sliceL (ha : EJ X W .t a f) (hl : OJ X W lo fl) (hh : OJ X W hi fh) : EJ X W .f (.Subscript a (.Slice lo hi none p2) pos) (eSl slL f fl fh) := e_sl sl_list slL_exc (s_slL _) ha hl hh
theorem e_item (ha : EJ X W .t a f) (hb : EJ X W .t b g) (hs : PlainIx b) : EJ X W .s (.Subscript a b pos) (e2 ixP f g) := e_ix ix_seq ixP_exc (s_ix _) ha hb hs
end
def lenP : List PV → R PV
  | [.lst l] | [.tup l] | [.frz l] => .ok (.int l.length)
  | [.str s] => if s.length ≤ sizeLine then .ok (.int s.length) else .stuck
  | _ => .stuck
def absP : List PV → R PV
  | [.int i] => .ok (.int (if i < 0 then -i else i))
  | _ => .stuck
def minP : List PV → R PV
  | [.int i, .int j] => .ok (.int (if j < i then j else i))
  | _ => .stuck
def intP1 : List PV → R PV
  | [.int i] => .ok (.int i)
  | [.bl k] => .ok (.int (if k then 1 else 0))
  | _ => .stuck
def listP : List PV → R PV
  | [.lst l] | [.tup l] | [.frz l] => .ok (.lst l)
  | _ => .stuck
def tupleP : List PV → R PV
  | [.lst l] | [.tup l] | [.frz l] => .ok (.tup l)
  | _ => .stuck
def asBs : List PV → Option (List Bool)
  | [] => some []
  | .bl b :: r => (asBs r).map (b :: ·)
  | _ => none
def allP : List PV → R PV
  | [.lst l] => match asBs l with
    | some bs => .ok (.bl (bs.all id))
    | none => .stuck
  | _ => .stuck
def divmodP : List PV → R PV
  | [.int i, .int j] => if 0 < j ∧ j.natAbs.log2 < 9000 then .ok (.tup [.int (i / j), .int (i % j)]) else .stuck
  | _ => .stuck
theorem asBs_map : ∀ {l : List PV} {bs : List Bool}, asBs l = some bs → l = bs.map PV.bl
  | [], _, h => by cases h; rfl
  | .bl b :: r, bs, h => by
    unfold asBs at h
    obtain ⟨cs, h1, rfl⟩ := Option.map_eq_some_iff.mp h
    rw [asBs_map h1]; rfl
  | .non :: _, _, h | .int _ :: _, _, h | .str _ :: _, _, h | .tup _ :: _, _, h | .lst _ :: _, _, h | .frz _ :: _, _, h | .dct :: _, _, h | .dt _ :: _, _, h | .obj _ _ _ :: _, _, h => by simp [asBs] at h
theorem asBs_of : ∀ bs : List Bool, asBs (bs.map PV.bl) = some bs
  | [] => rfl
  | b :: bs => by simp [asBs, asBs_of bs]
section
variable {X : Cx} {W : WX}
theorem pr1 {F : V → PV → Prop} {vs : List V} {p : PV} (h : Paired F vs [p]) : ∃ v, vs = [v] ∧ F v p := by
  cases h with
  | cons a r => cases r; exact ⟨_, rfl, a⟩
theorem pr2 {F : V → PV → Prop} {vs : List V} {p q : PV} (h : Paired F vs [p, q]) : ∃ v w, vs = [v, w] ∧ F v p ∧ F w q := by
  cases h with
  | cons a r =>
    obtain ⟨w, rfl, b⟩ := pr1 r
    exact ⟨_, _, rfl, a, b⟩
theorem s_len (K : PySem.W.Frag) : CallS K (fun xs H Q => ∃ x n, xs = [x] ∧ LenV K x H n ∧ Q (.int n) H) .t .s lenP := by
  intro H0 O0 σ ρ H H2 xs ps Q S s r G
  unfold lenP at G
  split at G
  · obtain ⟨v, rfl, r1⟩ := pr1 r
    obtain ⟨a, vs, rfl, h1, r2⟩ := rt_lst r1
    exact ⟨_, vs.length, rfl, .inl ⟨vs, .inl (.inl h1), rfl⟩, by rw [r2.length]; exact G _ _ (Same.refl _) (.int _)⟩
  · obtain ⟨v, rfl, r1⟩ := pr1 r
    obtain ⟨a, vs, rfl, h1, r2⟩ := rt_tup r1
    exact ⟨_, vs.length, rfl, .inr ⟨vs, sqT_of h1, rfl⟩, by rw [r2.length]; exact G _ _ (Same.refl _) (.int _)⟩
  · obtain ⟨v, rfl, r1⟩ := pr1 r
    obtain ⟨a, ns, rfl, rfl, h1⟩ := rt_frz r1
    refine ⟨_, _, rfl, .inl ⟨_, h1, rfl⟩, ?_⟩
    rw [List.length_map] at G ⊢
    exact G _ _ (Same.refl _) (.int _)
  · split at G
    · rename_i hz
      obtain ⟨v, rfl, r1⟩ := pr1 r
      rw [rt_str r1]
      exact ⟨_, _, rfl, ⟨hz, rfl⟩, G _ _ (Same.refl _) (.int _)⟩
    · exact G.elim
  · exact G.elim
theorem s_abs (K : PySem.W.Frag) : CallS K (fun xs H Q => ∃ i, xs = [.int i] ∧ Q (.int (if i < 0 then -i else i)) H) .t .s absP := by
  intro H0 O0 σ ρ H H2 xs ps Q S s r G
  unfold absP at G
  split at G
  · obtain ⟨v, rfl, r1⟩ := pr1 r
    rw [rt_int r1]; exact ⟨_, rfl, G _ _ (Same.refl _) (.int _)⟩
  · exact G.elim
theorem s_min (K : PySem.W.Frag) : CallS K (fun xs H Q => ∃ i j, xs = [.int i, .int j] ∧ Q (.int (if j < i then j else i)) H) .t .s minP := by
  intro H0 O0 σ ρ H H2 xs ps Q S s r G
  unfold minP at G
  split at G
  · obtain ⟨v, w, rfl, r1, r2⟩ := pr2 r
    rw [rt_int r1, rt_int r2]; exact ⟨_, _, rfl, G _ _ (Same.refl _) (.int _)⟩
  · exact G.elim
theorem s_int1 (K : PySem.W.Frag) : CallS K (fun xs H Q => (∃ i, xs = [.int i] ∧ Q (.int i) H) ∨ ∃ k, xs = [.bl k] ∧ Q (.int (if k then 1 else 0)) H) .t .s intP1 := by
  intro H0 O0 σ ρ H H2 xs ps Q S s r G
  unfold intP1 at G
  split at G
  · obtain ⟨v, rfl, r1⟩ := pr1 r
    rw [rt_int r1]; exact .inl ⟨_, rfl, G _ _ (Same.refl _) (.int _)⟩
  · obtain ⟨v, rfl, r1⟩ := pr1 r
    rw [rt_bl r1]; exact .inr ⟨_, rfl, G _ _ (Same.refl _) (.int _)⟩
  · exact G.elim
theorem s_list (K : PySem.W.Frag) : CallS K (fun xs H Q => ∃ p ys, xs = [.ref p] ∧ (SqL K H p ys ∨ SqT K H p ys) ∧ ∀ l, H l = none → Q (.ref l) (upd H l (.lst ys))) .t .f listP := by
  intro H0 O0 σ ρ H H2 xs ps Q S s r G
  unfold listP at G
  split at G
  · obtain ⟨v, rfl, r1⟩ := pr1 r
    obtain ⟨a, vs, rfl, h1, r2⟩ := rt_lst r1
    exact ⟨a, vs, rfl, .inl (.inl (.inl h1)), fun l hl => G _ _ (same_new hl) (new_lst (H0 := H0) s r2 hl)⟩
  · obtain ⟨v, rfl, r1⟩ := pr1 r
    obtain ⟨a, vs, rfl, h1, r2⟩ := rt_tup r1
    exact ⟨a, vs, rfl, .inr (sqT_of h1), fun l hl => G _ _ (same_new hl) (new_lst (H0 := H0) s r2 hl)⟩
  · obtain ⟨v, rfl, r1⟩ := pr1 r
    obtain ⟨a, ns, rfl, rfl, h1⟩ := rt_frz r1
    exact ⟨a, _, rfl, .inl h1, fun l hl => G _ _ (same_new hl) (new_lst (H0 := H0) s (Reps.ofInts ns) hl)⟩
  · exact G.elim
theorem s_tuple (K : PySem.W.Frag) : CallS K (fun xs H Q => ∃ p ys, xs = [.ref p] ∧ ((SqL K H p ys ∧ ∀ l, H l = none → Q (.ref l) (upd H l (.tup ys))) ∨ (SqT K H p ys ∧ Q (.ref p) H))) .t .s tupleP := by
  intro H0 O0 σ ρ H H2 xs ps Q S s r G
  unfold tupleP at G
  split at G
  · obtain ⟨v, rfl, r1⟩ := pr1 r
    obtain ⟨a, vs, rfl, h1, r2⟩ := rt_lst r1
    exact ⟨a, vs, rfl, .inl ⟨.inl (.inl h1), fun l hl => G _ _ (same_new hl) (new_tup (H := H) (S.step s) r2 hl)⟩⟩
  · obtain ⟨v, rfl, r1⟩ := pr1 r
    obtain ⟨a, vs, rfl, h1, r2⟩ := rt_tup r1
    exact ⟨a, vs, rfl, .inr ⟨sqT_of h1, G _ _ (Same.refl _) (.tup h1 r2)⟩⟩
  · obtain ⟨v, rfl, r1⟩ := pr1 r
    obtain ⟨a, ns, rfl, rfl, h1⟩ := rt_frz r1
    exact ⟨a, _, rfl, .inl ⟨h1, fun l hl => G _ _ (same_new hl) (new_tup (H := H) (S.step s) (Reps.ofInts ns) hl)⟩⟩
  · exact G.elim
theorem s_all (K : PySem.W.Frag) : CallS K (rAll K) .t .s allP := by
  intro H0 O0 σ ρ H H2 xs ps Q S s r G
  unfold allP at G
  split at G
  · split at G
    · rename_i bs hbs
      obtain ⟨v, rfl, r1⟩ := pr1 r
      rw [asBs_map hbs] at r1
      obtain ⟨a, vs, rfl, h1, r2⟩ := rt_lst r1
      rw [r2.bls] at h1
      exact ⟨a, bs, rfl, .inl (.inl h1), G _ _ (Same.refl _) (.bl _)⟩
    · exact G.elim
  · exact G.elim
theorem noPy {i j : Int} (h : j.natAbs.log2 < 9000) : Builtin.divisionGoesByPylong i j = false := PyProof.noPylong_of_log2 h
theorem s_divmod (K : PySem.W.Frag) : CallS K (fun xs H Q => ∃ i j, xs = [.int i, .int j] ∧ CDivP i j ∧ ∀ p, H p = none → Q (.ref p) (upd H p (.tup [.int (i / j), .int (i % j)]))) .t .s divmodP := by
  intro H0 O0 σ ρ H H2 xs ps Q S s r G
  unfold divmodP at G
  split at G
  · split at G
    · rename_i hz
      obtain ⟨v, w, rfl, r1, r2⟩ := pr2 r
      rw [rt_int r1, rt_int r2]
      exact ⟨_, _, rfl, ⟨hz.1, noPy hz.2⟩, fun l hl => G _ _ (same_new hl) (new_tup (H := H) (S.step s) (.cons (.int _) (.cons (.int _) .nil)) hl)⟩
    · exact G.elim
  · exact G.elim
theorem lenP_exc (ps : List PV) (c : Str) : lenP ps ≠ .exc c := by unfold lenP; split <;> (try split) <;> exact fun z => nomatch z
theorem absP_exc (ps : List PV) (c : Str) : absP ps ≠ .exc c := by unfold absP; split <;> exact fun z => nomatch z
theorem minP_exc (ps : List PV) (c : Str) : minP ps ≠ .exc c := by unfold minP; split <;> exact fun z => nomatch z
theorem intP1_exc (ps : List PV) (c : Str) : intP1 ps ≠ .exc c := by unfold intP1; split <;> exact fun z => nomatch z
theorem listP_exc (ps : List PV) (c : Str) : listP ps ≠ .exc c := by unfold listP; split <;> exact fun z => nomatch z
theorem tupleP_exc (ps : List PV) (c : Str) : tupleP ps ≠ .exc c := by unfold tupleP; split <;> exact fun z => nomatch z
theorem allP_exc (ps : List PV) (c : Str) : allP ps ≠ .exc c := by unfold allP; split <;> (try split) <;> exact fun z => nomatch z
theorem divmodP_exc (ps : List PV) (c : Str) : divmodP ps ≠ .exc c := by unfold divmodP; split <;> (try split) <;> exact fun z => nomatch z
variable {e : Expr} {es : List Expr} {pos p : Pos} {fA : Rho → R (List PV)} {f : Rho → R PV}
theorem e_len (mg : X.mg "len" = none) (hg : Gl X "len") (ha : AJ X W .t [e] fA) (he : starEach [e] X.env = (false, eval e X.env) :: starEach [] X.env := by rfl) : EJ X W .s (.Call (.Name "len" p) [e] [] pos) (eD lenP fA) := e_callB call_len lenP_exc (s_len _) hg mg PySem.boot_len ha (he := he)
theorem e_abs (mg : X.mg "abs" = none) (hg : Gl X "abs") (ha : AJ X W .t [e] fA) (he : starEach [e] X.env = (false, eval e X.env) :: starEach [] X.env := by rfl) : EJ X W .s (.Call (.Name "abs" p) [e] [] pos) (eD absP fA) := e_callB call_abs absP_exc (s_abs _) hg mg (by decide +kernel) ha (he := he)
theorem e_int1 (mg : X.mg "int" = none) (hg : Gl X "int") (ha : AJ X W .t [e] fA) (he : starEach [e] X.env = (false, eval e X.env) :: starEach [] X.env := by rfl) : EJ X W .s (.Call (.Name "int" p) [e] [] pos) (eD intP1 fA) := e_callTy call_int1 intP1_exc (s_int1 _) hg mg (by decide +kernel) ha (he := he)
theorem e_list (mg : X.mg "list" = none) (hg : Gl X "list") (ha : AJ X W .t [e] fA) (he : starEach [e] X.env = (false, eval e X.env) :: starEach [] X.env := by rfl) : EJ X W .f (.Call (.Name "list" p) [e] [] pos) (eD listP fA) := e_callTy call_list_of listP_exc (s_list _) hg mg (by decide +kernel) ha (he := he)
theorem e_tuple (mg : X.mg "tuple" = none) (hg : Gl X "tuple") (ha : AJ X W .t [e] fA) (he : starEach [e] X.env = (false, eval e X.env) :: starEach [] X.env := by rfl) : EJ X W .s (.Call (.Name "tuple" p) [e] [] pos) (eD tupleP fA) := e_callTy call_tuple_of tupleP_exc (s_tuple _) hg mg (by decide +kernel) ha (he := he)
theorem e_all (hc : X.calm = true) (mg : X.mg "all" = none) (hg : Gl X "all") (ha : AJ X W .t [e] fA) (he : starEach [e] X.env = (false, eval e X.env) :: starEach [] X.env := by rfl) : EJ X W .s (.Call (.Name "all" p) [e] [] pos) (eD allP fA) := e_callB (cr_all hc) allP_exc (s_all _) hg mg (by decide +kernel) ha (he := he)
theorem e_min2 (hc : X.calm = true) {e' : Expr} (mg : X.mg "min" = none) (hg : Gl X "min") (ha : AJ X W .t [e, e'] fA) (he : starEach [e, e'] X.env = (false, eval e X.env) :: starEach [e'] X.env := by rfl) (hpl : (backTo pos (starEach [e'] X.env)).any (·.1) = false := by rfl) : EJ X W .s (.Call (.Name "min" p) [e, e'] [] pos) (eD minP fA) := e_callB (call_min2 hc) minP_exc (s_min _) hg mg (by decide +kernel) ha (he := he) (hpl := hpl)
theorem e_divmod {e' : Expr} (mg : X.mg "divmod" = none) (hg : Gl X "divmod") (ha : AJ X W .t [e, e'] fA) (he : starEach [e, e'] X.env = (false, eval e X.env) :: starEach [e'] X.env := by rfl) (hpl : (backTo pos (starEach [e'] X.env)).any (·.1) = false := by rfl) : EJ X W .s (.Call (.Name "divmod" p) [e, e'] [] pos) (eD divmodP fA) := e_callB call_divmodW divmodP_exc (s_divmod _) hg mg (by decide +kernel) ha (he := he) (hpl := hpl)
def tyN : PV → String
  | .non => "NoneType" | .bl _ => "bool" | .int _ => "int" | .str _ => "str" | .tup _ => "tuple" | .lst _ => "list" | .frz _ => "list" | .dct => "dict" | .dt _ => "dict" | .obj _ _ _ => ""
def kitP (p : PV) (n : String) : Option Bool := match p with
  | .obj _ _ _ => if n ∈ (["int", "bool", "str", "tuple", "list", "dict"] : List String) then some false else none
  | p => kitB (tyN p) n
def isiP (n : String) (p : PV) : R PV := match kitP p n with
  | some b => .ok (.bl b)
  | none => .stuck
theorem rt_ty {K : PySem.W.Frag} {H H2 : Hp} {O0 : Addr → Prop} {σ : St} {ρ : Rho} {x : V} {p : PV} (r : RepM K O0 σ ρ .t H H2 x p) : ∃ T, TyX K H2 x T ∧ ∀ n b, kitP p n = some b → PySem.W.kitOne K T (.type n) = some b := by
  have kt : ∀ {t : String} {q : PV}, (∀ C ns fs, q ≠ .obj C ns fs) → tyN q = t → ∀ n b, kitP q n = some b → PySem.W.kitOne K (.type t) (.type n) = some b := fun {t q} hq ht n b h => by
    subst ht
    refine kit_ty ?_
    unfold kitP at h
    split at h
    · exact absurd rfl (hq _ _ _)
    · exact h
  rcases r with r | ⟨a, vs, ps, rfl, rfl, e3, e4⟩
  · cases r with
    | non => exact ⟨_, .base .non, kt (fun _ _ _ z => nomatch z) rfl⟩
    | bl b => exact ⟨_, .base (.bl b), kt (fun _ _ _ z => nomatch z) rfl⟩
    | int i => exact ⟨_, .base (.int i), kt (fun _ _ _ z => nomatch z) rfl⟩
    | str i => exact ⟨_, .base (.str i), kt (fun _ _ _ z => nomatch z) rfl⟩
    | lst h _ _ => exact ⟨_, .base (.lst h), kt (fun _ _ _ z => nomatch z) rfl⟩
    | tup h _ =>
      rcases h with ⟨h, _⟩ | ⟨o, its, n, h1, h2, _⟩
      · exact ⟨_, .base (.tup h), kt (fun _ _ _ z => nomatch z) rfl⟩
      · exact ⟨_, .kTuple h1 h2, kt (fun _ _ _ z => nomatch z) rfl⟩
    | frz h =>
      rcases h with ⟨⟨o, h⟩, _⟩ | h
      · exact ⟨_, .base (.frz h), kt (fun _ _ _ z => nomatch z) rfl⟩
      · rcases h fun _ => none with (h | ⟨_, h⟩) | ⟨o, its, n, h1, h2, _⟩
        · cases h
        · cases h
        · exact ⟨_, .kList h1 h2, kt (fun _ _ _ z => nomatch z) rfl⟩
    | dct h _ => exact ⟨_, .base (.dK h), kt (fun _ _ _ z => nomatch z) rfl⟩
    | dt h _ => exact ⟨_, .base (.dT h), kt (fun _ _ _ z => nomatch z) rfl⟩
    | obj h _ _ c _ =>
      refine ⟨_, .base (.ins h c.cl c.ha c.hn c.ht c.hm), fun n b h => ?_⟩
      unfold kitP at h
      dsimp only at h
      split at h
      · rename_i hn; cases h; exact c.kit n hn
      · cases h
  · exact ⟨_, .base (.lst e3), kt (fun _ _ _ z => nomatch z) rfl⟩
theorem e_isi {n : String} {en : Expr} (mg : X.mg "isinstance" = none) (hg : Gl X "isinstance") (ha : EJ X W .t e f) (hn : PE X en (tC (.ty n))) (he : starEach [e, en] X.env = (false, eval e X.env) :: starEach [en] X.env := by rfl) (he2 : starEach [en] X.env = (false, eval en X.env) :: starEach [] X.env := by rfl) (hpl : (backTo pos (starEach [en] X.env)).any (·.1) = false := by rfl) :
    EJ X W .s (.Call (.Name "isinstance" p) [e, en] [] pos) (e1 (isiP n) f) := by
  refine pe_imp (pe_callB call_isi hg mg PyProof.Rows.boot_isinstance (pa_cons ha (pa_cons hn pa_nil he2) he) (by decide) (by decide) he hpl) fun σ H Q ⟨H0, O0, ρ, S, G⟩ => ⟨H0, O0, ρ, S, ?_⟩
  revert G
  unfold e1
  cases f ρ with
  | stuck => exact False.elim
  | exc c => exact fun G => G
  | ok q =>
    intro G x H1 s1 r1
    rw [R.bind_ok] at G
    unfold isiP at G
    split at G
    · rename_i b hb
      obtain ⟨T, t1, t2⟩ := rt_ty r1
      exact ⟨x, .ty n, _, _, b, rfl, .ty n, t1, t2 _ _ hb, G _ _ s1 (.bl b)⟩
    · exact G.elim
def isiP2 (n m : String) (p : PV) : R PV := match kitP p n, kitP p m with
  | some b, some c => .ok (.bl (b || c))
  | _, _ => .stuck
theorem e_isi2 {n m : String} {en em : Expr} {pt : Pos} {k : Nat} (mg : X.mg "isinstance" = none) (hg : Gl X "isinstance") (ha : EJ X W .t e f) (hn : PE X en (tC (.ty n))) (hm : PE X em (tC (.ty m))) (he : starEach [e, .Tuple [en, em] k pt] X.env = (false, eval e X.env) :: starEach [.Tuple [en, em] k pt] X.env := by rfl)
    (he2 : starEach [.Tuple [en, em] k pt] X.env = (false, eval (.Tuple [en, em] k pt) X.env) :: starEach [] X.env := by rfl) (he3 : starEach [en, em] X.env = (false, eval en X.env) :: starEach [em] X.env := by rfl) (he4 : starEach [em] X.env = (false, eval em X.env) :: starEach [] X.env := by rfl) (hpl : (backTo pos (starEach [.Tuple [en, em] k pt] X.env)).any (·.1) = false := by rfl) :
    EJ X W .s (.Call (.Name "isinstance" p) [e, .Tuple [en, em] k pt] [] pos) (e1 (isiP2 n m) f) := by
  refine pe_imp (pe_callB call_isiT hg mg PyProof.Rows.boot_isinstance (pa_cons ha (pa_cons (pe_tup (pa_cons hn (pa_cons hm pa_nil he4) he3)) pa_nil he2) he) (by decide) (by decide) he hpl) fun σ H Q ⟨H0, O0, ρ, S, G⟩ => ⟨H0, O0, ρ, S, ?_⟩
  revert G
  unfold e1
  cases f ρ with
  | stuck => exact False.elim
  | exc c => exact fun G => G
  | ok q =>
    intro G x H1 s1 r1
    rw [R.bind_ok] at G
    unfold isiP2 at G
    split at G
    · rename_i b c hb hc
      refine ⟨by show 2 ≤ sizeLine; decide, fun t ht => ?_⟩
      obtain ⟨T, t1, t2⟩ := rt_ty (r1.step (same_new ht))
      refine ⟨x, t, [.ty n, .ty m], _, [.type n, .type m], b || c, rfl, upd_same, .cons (.ty n) (.cons (.ty m) .nil), t1, kitAny_cons (t2 _ _ hb) (fun e => ?_) (fun e => by rw [e]; rfl), G _ _ (s1.trans (same_new ht)) (.bl _)⟩
      rw [e, Bool.false_or]
      exact kitAny_cons (t2 _ _ hc) (fun e => by rw [e]; exact kitAny_nil) fun e => e
    · exact G.elim
end
end PL
set_option Elab.async false
set_option linter.all false
set_option maxRecDepth 100000
set_option autoImplicit false
namespace PL
open PySem PySem.Spec L2
open PyProof.Rows hiding St
def Kept (O : Addr → Prop) (H : Hp) (O' : Addr → Prop) (H' : Hp) : Prop := ∀ a o, H a = some o → ¬ O a → H' a = some o ∧ ¬ O' a
theorem Kept.refl (O : Addr → Prop) (H : Hp) : Kept O H O H := fun _ _ h n => ⟨h, n⟩
theorem Kept.trans {O O1 O2 : Addr → Prop} {H H1 H2 : Hp} (a : Kept O H O1 H1) (b : Kept O1 H1 O2 H2) : Kept O H O2 H2 := fun c o h n => b c o (a c o h n).1 (a c o h n).2
theorem Kept.same {O : Addr → Prop} {H H' : Hp} (s : Same H H') : Kept O H O H' := fun a o h n => ⟨s a o h, n⟩
structure ItOk (K : PySem.W.Frag) (J : It) (items : List PV) (O1 : Addr → Prop) (H1 : Hp) : Prop where
  go : ∀ i H O, Kept O1 H1 O H → i < items.length → J.go i H
  stop : ∀ i H O, Kept O1 H1 O H → items.length ≤ i → J.stop i H
  yld : ∀ i H O x H' p, Kept O1 H1 O H → (∀ a, O a → H a ≠ none) → items[i]? = some p → J.yld i H x H' → Same H H' ∧ Rep K H' O x p
def GotI (K : PySem.W.Frag) (mg : Str → Option Value) (W : WX) (O0 : Addr → Prop) (σ : St) (ρ : Rho) (H : Hp) (Q : It → Hp → Prop) : R (List PV) → Prop
  | .ok items => ∀ J H', Same H H' → ItOk K J items (OO O0 σ ρ) H' → Q J H'
  | .exc c => ∀ C H', Same H H' → mg c = some (.ref C) → W (.ref C) none σ H'
  | .stuck => False
def tI (K : PySem.W.Frag) (mg : Str → Option Value) (W : WX) (f : Rho → R (List PV)) : TI := fun σ H Q =>
  ∃ H0 O0 ρ, StR K H0 O0 H σ ρ ∧ GotI K mg W O0 σ ρ H Q (f ρ)
abbrev IJ (X : Cx) (W : WX) (tg it : Expr) (f : Rho → R (List PV)) : Prop := PI X tg it (tI X.K X.mg W f)
section
variable {X : Cx} {W : WX} {e e' e'' tg : Expr} {pos p : Pos} {f : Rho → R PV} {fA : Rho → R (List PV)} {K : PySem.W.Frag}
theorem pi_imp {t t' : TI} (h : PI X tg e t) (q : ∀ σ H Q, t' σ H Q → t σ H Q) : PI X tg e t' := ⟨fun pins s σ H Q I hw => h.run pins s σ H Q I (q σ H Q hw)⟩
/-- the items of a list, a tuple -/
def asL : PV → R (List PV)
  | .lst l | .frz l => .ok l
  | _ => .stuck
def asS : PV → R (List PV)
  | .lst l | .frz l | .tup l => .ok l
  | _ => .stuck
def iRv (f : Rho → R PV) : Rho → R (List PV) := fun ρ => (f ρ).bind fun p => (asS p).bind fun l => .ok l.reverse
theorem kept_reps {H H1 : Hp} {O O1 : Addr → Prop} (k : Kept O1 H1 O H) {v : V} {p : PV} (r : Rep K H1 O1 v p) : Rep K H O v p := r.mono k
theorem lst_it {H1 : Hp} {O1 : Addr → Prop} {a : Addr} {l : List PV} (r : Rep K H1 O1 (.ref a) (.lst l)) : ItOk K (Itl K a) l O1 H1 ∧ ∃ xs, SqL K H1 a xs := by
  cases r with
  | @lst _ vs _ h n r =>
    refine ⟨⟨fun i H O k hi => ?_, fun i H O k hi => ⟨vs, .inl (.inl (k _ _ h n).1), by rw [r.length]; exact hi⟩, fun i H O x H' p k _ hp hy => ?_⟩, vs, .inl (.inl h)⟩
    · obtain ⟨v, hv, _⟩ := r.get (List.getElem?_eq_getElem hi)
      exact ⟨vs, v, .inl (.inl (k _ _ h n).1), hv⟩
    · obtain ⟨rfl, hx⟩ := hy
      obtain ⟨q, hq, rq⟩ := r.get' (hx vs (.inl (.inl (k _ _ h n).1)))
      rw [hp] at hq; cases hq
      exact ⟨Same.refl _, kept_reps k rq⟩
theorem frz_it {H1 : Hp} {O1 : Addr → Prop} {a : Addr} {l : List PV} (r : Rep K H1 O1 (.ref a) (.frz l)) : ItOk K (Itl K a) l O1 H1 ∧ ∃ xs, SqL K H1 a xs := by
  generalize hl : PV.frz l = q at r
  cases r with
  | @frz _ ns h =>
    cases hl
    have sq : ∀ H O, Kept O1 H1 O H → SqL K H a (ns.map V.int) := fun H O k => by
      rcases h with ⟨⟨o, h⟩, n⟩ | h
      · exact .inl (.inr ⟨o, (k _ _ h n).1⟩)
      · exact h _
    refine ⟨⟨fun i H O k hi => ?_, fun i H O k hi => ⟨_, sq H O k, by simpa using hi⟩, fun i H O x H' p k _ hp hy => ?_⟩, _, sq _ _ (Kept.refl _ _)⟩
    · rw [List.length_map] at hi
      exact ⟨_, .int ns[i], sq H O k, by rw [List.getElem?_map, List.getElem?_eq_getElem hi]; rfl⟩
    · obtain ⟨rfl, hx⟩ := hy
      have hx := hx _ (sq _ O k)
      rw [List.getElem?_map] at hp hx
      cases hn : ns[i]? with
      | none => rw [hn] at hp; cases hp
      | some n =>
        rw [hn] at hp hx
        cases hp; cases hx
        exact ⟨Same.refl _, .int n⟩
  | _ => cases hl
theorem tup_it {H1 : Hp} {O1 : Addr → Prop} {a : Addr} {l : List PV} (r : Rep K H1 O1 (.ref a) (.tup l)) : ItOk K (Itt K a) l O1 H1 ∧ ∃ xs, SqT K H1 a xs := by
  cases r with
  | @tup _ vs _ h r =>
    have sq : ∀ H O, Kept O1 H1 O H → SqT K H a vs := fun H O k => by
      rcases h with ⟨h, n⟩ | h
      · exact .inl (.inl (k _ _ h n).1)
      · exact h.sq
    refine ⟨⟨fun i H O k hi => ?_, fun i H O k hi => ⟨vs, sq H O k, by rw [r.length]; exact hi⟩, fun i H O x H' p k _ hp hy => ?_⟩, vs, sq _ _ (Kept.refl _ _)⟩
    · obtain ⟨v, hv, _⟩ := r.get (List.getElem?_eq_getElem hi)
      exact ⟨vs, v, sq H O k, hv⟩
    · obtain ⟨rfl, hx⟩ := hy
      obtain ⟨q, hq, rq⟩ := r.get' (hx vs (sq _ O k))
      rw [hp] at hq; cases hq
      exact ⟨Same.refl _, kept_reps k rq⟩
/-- a PI by either of two readings -/
theorem pi_or {w1 w2 : TI} (h1 : PI X tg e w1) (h2 : PI X tg e w2) : PI X tg e (fun σ H R => w1 σ H R ∨ w2 σ H R) := ⟨fun pins s σ H R I hw => by
  rcases hw with hw | hw
  · exact h1.run pins s σ H R I hw
  · exact h2.run pins s σ H R I hw⟩
def iS (f : Rho → R PV) : Rho → R (List PV) := fun ρ => (f ρ).bind asS
theorem ref_of {H1 : Hp} {O1 : Addr → Prop} {v : V} {p : PV} (r : Rep K H1 O1 v p) (h : (∃ l, p = .lst l) ∨ (∃ l, p = .frz l) ∨ ∃ l, p = .tup l) : ∃ a, v = .ref a := by
  rcases h with ⟨l, rfl⟩ | ⟨l, rfl⟩ | ⟨l, rfl⟩
  · cases r; exact ⟨_, rfl⟩
  · generalize hl : PV.frz l = q at r
    cases r with
    | frz h => exact ⟨_, rfl⟩
    | _ => cases hl
  · cases r; exact ⟨_, rfl⟩
/-- a list or a tuple, walked -/
theorem i_seq (he : EJ X W .s e f) : IJ X W tg e (iS f) := by
  refine pi_imp (pi_or (L2.pi_list he) (L2.pi_tup he)) fun σ H Q ⟨H0, O0, ρ, S, G⟩ => ?_
  revert G
  unfold iS
  cases hf : f ρ with
  | stuck => exact False.elim
  | exc c => exact fun G => .inl ⟨H0, O0, ρ, S, by rw [hf]; exact G⟩
  | ok p =>
    cases p with
    | lst l =>
      intro G
      refine .inl ⟨H0, O0, ρ, S, ?_⟩
      rw [hf]
      intro v H1 s1 r1
      obtain ⟨a, rfl⟩ := ref_of r1 (.inl ⟨l, rfl⟩)
      obtain ⟨h1, h2⟩ := lst_it r1
      exact ⟨a, rfl, h2, G _ _ s1 h1⟩
    | frz l =>
      intro G
      refine .inl ⟨H0, O0, ρ, S, ?_⟩
      rw [hf]
      intro v H1 s1 r1
      obtain ⟨a, rfl⟩ := ref_of r1 (.inr (.inl ⟨l, rfl⟩))
      obtain ⟨h1, h2⟩ := frz_it r1
      exact ⟨a, rfl, h2, G _ _ s1 h1⟩
    | tup l =>
      intro G
      refine .inr ⟨H0, O0, ρ, S, ?_⟩
      rw [hf]
      intro v H1 s1 r1
      obtain ⟨a, rfl⟩ := ref_of r1 (.inr (.inr ⟨l, rfl⟩))
      obtain ⟨h1, h2⟩ := tup_it r1
      exact ⟨a, rfl, h2, G _ _ s1 h1⟩
    | _ => exact False.elim
theorem rev_ix {α : Type} {l : List α} {i : Nat} (h : i < l.length) : l.reverse[i]? = l[l.length - 1 - i]? := List.getElem?_reverse h
theorem i_rev (mg : X.mg "reversed" = none) (hg : Gl X "reversed") (he : EJ X W .s e f) (hs : starEach [e] X.env = (false, eval e X.env) :: starEach [] X.env := by rfl) : IJ X W tg (.Call (.Name "reversed" p) [e] [] pos) (iRv f) := by
  refine pi_imp (RT.pi_revA hg mg he hs) fun σ H Q ⟨H0, O0, ρ, S, G⟩ => ⟨H0, O0, ρ, S, ?_⟩
  revert G
  unfold iRv
  cases hf : f ρ with
  | stuck => exact False.elim
  | exc c => exact fun G => G
  | ok p =>
    cases p with
    | lst l =>
      intro G v H1 s1 r1
      cases (show Rep X.K H1 (OO O0 σ ρ) v (.lst l) from r1) with
      | @lst a vs _ h n r =>
        refine ⟨a, vs, rfl, .inl ⟨.inl (.inl h), G _ _ s1 ⟨fun i H O k hi => ?_, fun i H O k hi => ?_, fun i H O x H' p k _ hp hy => ?_⟩⟩⟩
        · rw [List.length_reverse] at hi
          refine ⟨by rw [r.length]; exact hi, vs, vs[vs.length - 1 - i]'(by rw [r.length]; omega), .inl (.inl (k _ _ h n).1), List.getElem?_eq_getElem _⟩
        · rw [List.length_reverse] at hi
          show vs.length ≤ i
          rw [r.length]; exact hi
        · obtain ⟨rfl, hx⟩ := hy
          have hi : i < l.length := by
            have := (List.getElem?_eq_some_iff.mp hp).1
            simpa using this
          rw [rev_ix hi] at hp
          obtain ⟨q, hq, rq⟩ := r.get' (hx vs (.inl (.inl (k _ _ h n).1)))
          rw [r.length] at hq
          rw [hp] at hq; cases hq
          exact ⟨Same.refl _, kept_reps k rq⟩
    | tup l =>
      intro G v H1 s1 r1
      cases (show Rep X.K H1 (OO O0 σ ρ) v (.tup l) from r1) with
      | @tup a vs _ h r =>
        have sq : ∀ H O, Kept (OO O0 σ ρ) H1 O H → SqT X.K H a vs := fun H O k => by
          rcases h with ⟨h, n⟩ | h
          · exact .inl (.inl (k _ _ h n).1)
          · exact h.sq
        refine ⟨a, vs, rfl, .inr ⟨sq _ _ (Kept.refl _ _), G _ _ s1 ⟨fun i H O k hi => ?_, fun i H O k hi => ?_, fun i H O x H' p k _ hp hy => ?_⟩⟩⟩
        · rw [List.length_reverse] at hi
          refine ⟨by rw [r.length]; exact hi, vs, vs[vs.length - 1 - i]'(by rw [r.length]; omega), sq H O k, List.getElem?_eq_getElem _⟩
        · rw [List.length_reverse] at hi
          show vs.length ≤ i
          rw [r.length]; exact hi
        · obtain ⟨rfl, hx⟩ := hy
          have hi : i < l.length := by
            have := (List.getElem?_eq_some_iff.mp hp).1
            simpa using this
          rw [rev_ix hi] at hp
          obtain ⟨q, hq, rq⟩ := r.get' (hx vs (sq _ O k))
          rw [r.length] at hq
          rw [hp] at hq; cases hq
          exact ⟨Same.refl _, kept_reps k rq⟩
    | frz l =>
      intro G v H1 s1 r1
      obtain ⟨a, rfl⟩ := ref_of r1 (.inr (.inl ⟨l, rfl⟩))
      generalize hl : PV.frz l = q at r1
      cases (show Rep X.K H1 (OO O0 σ ρ) (.ref a) q from r1) with
      | @frz a ns h =>
        cases hl
        have sq : ∀ H O, Kept (OO O0 σ ρ) H1 O H → SqL X.K H a (ns.map V.int) := fun H O k => by
          rcases h with ⟨⟨o, h⟩, n⟩ | h
          · exact .inl (.inr ⟨o, (k _ _ h n).1⟩)
          · exact h _
        refine ⟨a, _, rfl, .inl ⟨sq _ _ (Kept.refl _ _), G _ _ s1 ⟨fun i H O k hi => ?_, fun i H O k hi => ?_, fun i H O x H' p k _ hp hy => ?_⟩⟩⟩
        · rw [List.length_reverse, List.length_map] at hi
          refine ⟨by rw [List.length_map]; exact hi, _, (ns.map V.int)[(ns.map V.int).length - 1 - i]'(by rw [List.length_map]; omega), sq H O k, List.getElem?_eq_getElem _⟩
        · rw [List.length_reverse, List.length_map] at hi
          show (ns.map V.int).length ≤ i
          rw [List.length_map]; exact hi
        · obtain ⟨rfl, hx⟩ := hy
          have hi : i < (ns.map PV.int).length := by
            have := (List.getElem?_eq_some_iff.mp hp).1
            simpa using this
          rw [rev_ix hi] at hp
          have hx := hx _ (sq _ O k)
          rw [List.length_map] at hx hp
          rw [List.getElem?_map] at hp hx
          cases hn : ns[ns.length - 1 - i]? with
          | none => rw [hn] at hp; cases hp
          | some n =>
            rw [hn] at hp hx
            cases hp; cases hx
            exact ⟨Same.refl _, .int n⟩
      | _ => cases hl
    | _ => exact False.elim
/-- lo, lo + 1, .. -/
def rngL (lo : Int) (n : Nat) : List PV := (List.range n).map fun (i : Nat) => PV.int (lo + i)
theorem rngL_len (lo : Int) (n : Nat) : (rngL lo n).length = n := by unfold rngL; rw [List.length_map, List.length_range]
theorem rng_it (lo : Int) (n : Nat) (O1 : Addr → Prop) (H1 : Hp) : ItOk K (Itr lo n) (rngL lo n) O1 H1 := by
  refine ⟨fun i H O k hi => by rw [rngL_len] at hi; exact hi, fun i H O k hi => by rw [rngL_len] at hi; exact hi, fun i H O x H' p k _ hp hy => ?_⟩
  obtain ⟨rfl, rfl⟩ := hy
  unfold rngL at hp
  rw [List.getElem?_map] at hp
  cases hn : (List.range n)[i]? with
  | none => rw [hn] at hp; cases hp
  | some j =>
    rw [hn] at hp
    obtain ⟨h1, h2⟩ := List.getElem?_eq_some_iff.mp hn
    rw [List.getElem_range] at h2
    cases hp
    rw [h2]
    exact ⟨Same.refl _, .int _⟩
def inR (i : Int) : Bool := decide (-(2 ^ 62) ≤ i) && decide (i < 2 ^ 62)
theorem inR_iff {i : Int} : inR i = true ↔ -(2 ^ 62) ≤ i ∧ i < 2 ^ 62 := by unfold inR; rw [Bool.and_eq_true, decide_eq_true_eq, decide_eq_true_eq]
def rng1 : List PV → R (List PV)
  | [.int j] => if inR j = true then .ok (rngL 0 j.toNat) else .stuck
  | _ => .stuck
def rng2 : List PV → R (List PV)
  | [.int i, .int j] => .ok (rngL i (j - i).toNat)
  | _ => .stuck
def iR (g : List PV → R (List PV)) (f : Rho → R (List PV)) : Rho → R (List PV) := fun ρ => (f ρ).bind g
theorem i_rng1 (mg : X.mg "range" = none) (hg : Gl X "range") (ha : AJ X W .t [e] fA) (hs : starEach [e] X.env = [(false, eval e X.env)] := by rfl) : IJ X W tg (.Call (.Name "range" p) [e] [] pos) (iR rng1 fA) := by
  refine pi_imp (pi_range1 hg mg ha hs) fun σ H Q ⟨H0, O0, ρ, S, G⟩ => ⟨H0, O0, ρ, S, ?_⟩
  revert G
  unfold iR
  cases fA ρ with
  | stuck => exact False.elim
  | exc c => exact fun G => G
  | ok ps =>
    intro G vs H1 s1 r1
    rw [R.bind_ok] at G
    unfold rng1 at G
    split at G
    · split at G
      · rename_i hz
        obtain ⟨v, rfl, r2⟩ := pr1 r1
        rw [rt_int r2]
        obtain ⟨z1, z2⟩ := inR_iff.mp hz
        exact ⟨_, rfl, z1, z2, G _ _ s1 (rng_it _ _ _ _)⟩
      · exact G.elim
    · exact G.elim
/-- a range of any numbers, walked by the iterator for great ones -/
theorem turn_long {P : Program} {w : World} {K : PySem.W.Frag} {tg : Expr} (z : Addr) (lo : Int) (n : Nat) : Turn P w K tg (Itr lo n) [z] z (fun j g => IsLongIter g z (lo + (j : Nat) * 1) ((n : Int) - (j : Nat)) 1) := by
  have here : z ∈ [z] := List.mem_singleton.mpr rfl
  refine ⟨here, fun j g hg b hb => ?_, fun j g g' hg k => k z here _ hg, ?_, ?_, fun _ _ _ _ _ hg q => wpAny_pyIter_longiter hg q⟩
  · cases List.mem_singleton.mp hb
    exact ⟨_, hg, fun v e => nomatch e⟩
  · rintro X rfl rfl rfl calm j pins u σ H E inv fresh hg lt
    have fr := fresh z here
    refine (Walks.longrange (prog := X.prog) (w := X.w) (inv.ok.hd calm) z lo 1 n).item j u _ _ lt hg fun v g tk hv hg' same => ?_
    obtain ⟨t, rfl⟩ := hv
    have inv' : Inv X pins σ H { u with heap := g, toks := tk } := inv.turned (fun b o hb e => same b o (fun hm => hb (List.mem_singleton.mp hm)) e) fr.1 fr.2.1 fr.2.2.2.1 fr.2.2.2.2.1 fr.2.2.2.2.2
    exact ⟨_, rfl, go_of (s := { u with heap := g, toks := tk }) (n := "longrange_iterator") hg' rfl rfl (by decide) ⟨.int (lo + j), H, inv', ⟨t, by rw [Int.mul_one]⟩, ⟨rfl, rfl⟩, hg', fun b hb => (fresh b hb).1⟩⟩
  · rintro X rfl rfl rfl calm j pins u σ H E inv fresh hg le
    have fr := fresh z here
    have le : n ≤ j := le
    exact wpAny_pyNext_long_end (inv.ok.hd calm) hg (by omega) fun g eb => ⟨rfl, inv.turned (t' := u.toks) (fun b o hb e => eb b o hb e) fr.1 fr.2.1 fr.2.2.2.1 fr.2.2.2.2.1 fr.2.2.2.2.2⟩
theorem range_any {pins : List (Addr × Obj)} {σ : St} {H : Hp} {u : Shared} {R : It → Hp → Prop} {E : Value → Shared → Prop} {i j : Int} {t1 t2 t3 : Tok} {tk : Nat} (inv : Inv X pins σ H u) (q : R (Itr i (j - i).toNat) H) :
    wpAny (model X.prog X.w) X.A (pyIter (.ref u.heap.objs.size)) (PIE X pins σ tg R) E { u with heap := u.heap.push { cls := .type "range", data := .fields #[.int i t1, .int j t2, .int 1 t3] }, toks := tk } := by
  have inv' : Inv X pins σ H { u with heap := u.heap.push { cls := .type "range", data := .fields #[.int i t1, .int j t2, .int 1 t3] }, toks := tk } := inv.kept fun b o e => Heap.get?_push_of_some _ e
  have many : (((j - i).toNat : Nat) : Int) - ((0 : Nat) : Int) = Builtin.Range.rangeSize i j 1 := by rw [rangeSize_one]; split <;> omega
  have first : i + ((0 : Nat) : Int) * 1 = i := by simp
  cases sm : Builtin.Range.small i j 1 with
  | true =>
    refine wpAny_pyIter_range (IsRange.new ..) sm (pi_one inv' _ (turn_range _ i (j - i).toNat) ?_ q)
    show IsRangeIter _ _ (i + ((0 : Nat) : Int) * 1) ((((j - i).toNat : Nat) : Int) - ((0 : Nat) : Int)) 1
    rw [first, many]; exact Heap.get?_push_size _ rfl
  | false =>
    refine wpAny_pyIter_longrange (IsRange.new ..) sm (pi_one inv' _ (turn_long _ i (j - i).toNat) ?_ q)
    show IsLongIter _ _ (i + ((0 : Nat) : Int) * 1) ((((j - i).toNat : Nat) : Int) - ((0 : Nat) : Int)) 1
    rw [first, many]; exact Heap.get?_push_size _ rfl
def iRngA (ta : TA) : TI := fun σ H R => ta σ H fun vs H' => ∃ i j : Int, vs = [.int i, .int j] ∧ R (Itr i (j - i).toNat) H'
theorem pi_rangeA {a b : Expr} {ta : TA} {p pos : Pos} (hg : Gl X "range") (hm : X.mg "range" = none) (ha : PA X [a, b] ta) (h1 : starEach [a, b] X.env = [(false, eval a X.env), (false, eval b X.env)] := by rfl) (h2 : starEach [b] X.env = [(false, eval b X.env)] := by rfl) :
    PI X tg (.Call (.Name "range" p) [a, b] [] pos) (iRngA ta) := by
  refine ⟨fun pins u σ H R inv hw => Call_ (ld_blt inv hg hm boot_range (PyProof.Rows.callWith_type1 (thn (ha.run pos pins u σ H _ inv hw) ?_) (by rw [h1, h2]) (by rw [h2]; rfl)))⟩
  rintro us u1 ⟨vs, H1, inv1, rel, i, j, rfl, q⟩
  cases rel with
  | cons ri rel => cases rel with
    | cons rj rel =>
      cases rel
      obtain ⟨t1, rfl⟩ := ri
      obtain ⟨t2, rfl⟩ := rj
      exact call_range_2 (range_any inv1 q)
theorem i_rng2 (mg : X.mg "range" = none) (hg : Gl X "range") (ha : AJ X W .t [e, e'] fA) (hs : starEach [e, e'] X.env = [(false, eval e X.env), (false, eval e' X.env)] := by rfl) (hs2 : starEach [e'] X.env = [(false, eval e' X.env)] := by rfl) : IJ X W tg (.Call (.Name "range" p) [e, e'] [] pos) (iR rng2 fA) := by
  refine pi_imp (pi_rangeA hg mg ha hs hs2) fun σ H Q ⟨H0, O0, ρ, S, G⟩ => ⟨H0, O0, ρ, S, ?_⟩
  revert G
  unfold iR
  cases fA ρ with
  | stuck => exact False.elim
  | exc c => exact fun G => G
  | ok ps =>
    intro G vs H1 s1 r1
    rw [R.bind_ok] at G
    unfold rng2 at G
    split at G
    · obtain ⟨v, w, rfl, r2, r3⟩ := pr2 r1
      rw [rt_int r2, rt_int r3]
      exact ⟨_, _, rfl, G _ _ s1 (rng_it _ _ _ _)⟩
    · exact G.elim
/-- range(i, j, -1) -/
def rngDn (lo : Int) (n : Nat) : List PV := (List.range n).map fun (i : Nat) => PV.int (lo - i)
theorem rngDn_len (lo : Int) (n : Nat) : (rngDn lo n).length = n := by unfold rngDn; rw [List.length_map, List.length_range]
theorem rngDn_it (lo : Int) (n : Nat) (O1 : Addr → Prop) (H1 : Hp) : ItOk K (Itc lo (-1) n) (rngDn lo n) O1 H1 := by
  refine ⟨fun i H O k hi => by rw [rngDn_len] at hi; exact hi, fun i H O k hi => by rw [rngDn_len] at hi; exact hi, fun i H O x H' p k _ hp hy => ?_⟩
  obtain ⟨rfl, rfl⟩ := hy
  unfold rngDn at hp
  rw [List.getElem?_map] at hp
  cases hn : (List.range n)[i]? with
  | none => rw [hn] at hp; cases hp
  | some j =>
    rw [hn] at hp
    obtain ⟨h1, h2⟩ := List.getElem?_eq_some_iff.mp hn
    rw [List.getElem_range] at h2
    cases hp
    rw [h2, show lo + (j : Int) * -1 = lo - j by omega]
    exact ⟨Same.refl _, .int _⟩
def rng3 : List PV → R (List PV)
  | [.int i, .int j, .int c] => if (inR i && inR j && decide (c = -1)) = true then .ok (rngDn i (i - j).toNat) else .stuck
  | _ => .stuck
theorem i_rng3 (mg : X.mg "range" = none) (hg : Gl X "range") (ha : AJ X W .t [e, e', e''] fA) (hs : starEach [e, e', e''] X.env = (false, eval e X.env) :: starEach [e', e''] X.env := by rfl) (hpl : (backTo pos (starEach [e', e''] X.env)).any (·.1) = false := by rfl) : IJ X W tg (.Call (.Name "range" p) [e, e', e''] [] pos) (iR rng3 fA) := by
  refine pi_imp (pi_range3 hg mg ha hs hpl) fun σ H Q ⟨H0, O0, ρ, S, G⟩ => ⟨H0, O0, ρ, S, ?_⟩
  revert G
  unfold iR
  cases fA ρ with
  | stuck => exact False.elim
  | exc c => exact fun G => G
  | ok ps =>
    intro G vs H1 s1 r1
    rw [R.bind_ok] at G
    unfold rng3 at G
    split at G
    · split at G
      · rename_i hz
        rw [Bool.and_eq_true, Bool.and_eq_true, decide_eq_true_eq] at hz
        obtain ⟨⟨h1, h2⟩, rfl⟩ := hz
        obtain ⟨z1, z2⟩ := inR_iff.mp h1
        obtain ⟨z3, z4⟩ := inR_iff.mp h2
        cases r1 with
        | cons ra r1 => cases r1 with
          | cons rb r1 => cases r1 with
            | cons rc r1 =>
              cases r1
              rw [rt_int ra, rt_int rb, rt_int rc]
              exact ⟨_, _, _, _, rfl, RgC.neg z1 z2 z3 z4, G _ _ s1 (rngDn_it _ _ _ _)⟩
      · exact G.elim
    · exact G.elim
/-- enumerate(list) -/
def enumL : Nat → List PV → List PV
  | _, [] => []
  | n, p :: ps => .tup [.int (n : Nat), p] :: enumL (n + 1) ps
theorem enumL_len : ∀ (n : Nat) (l : List PV), (enumL n l).length = l.length
  | _, [] => rfl
  | n, p :: ps => by unfold enumL; rw [List.length_cons, List.length_cons, enumL_len]
theorem enumL_get : ∀ (n : Nat) (l : List PV) (i : Nat), (enumL n l)[i]? = (l[i]?).map fun p => .tup [.int ((n + i : Nat) : Int), p]
  | _, [], _ => rfl
  | n, p :: ps, 0 => rfl
  | n, p :: ps, i + 1 => by
    unfold enumL
    rw [List.getElem?_cons_succ, List.getElem?_cons_succ, enumL_get (n + 1) ps i]
    rw [show n + 1 + i = n + (i + 1) by omega]
def iEn (f : Rho → R PV) : Rho → R (List PV) := fun ρ => (f ρ).bind fun p => (match p with
  | .lst l => .ok (enumL 0 l)
  | _ => .stuck)
theorem i_enum {elts : List Expr} {kk : Nat} {tpos : Pos} (mg : X.mg "enumerate" = none) (hg : Gl X "enumerate") (he : EJ X W .s e f) (hs1 : starEach [e] X.env = (false, eval e X.env) :: starEach [] X.env := by rfl) (hs : starEach [e] X.env = [(false, eval e X.env)] := by rfl) : IJ X W (.Tuple elts kk tpos) (.Call (.Name "enumerate" p) [e] [] pos) (iEn f) := by
  refine pi_imp (pi_enum hg mg (pa_cons he pa_nil hs1) hs) fun σ H Q ⟨H0, O0, ρ, S, G⟩ => ⟨H0, O0, ρ, S, ?_⟩
  revert G
  unfold iEn
  cases hf : f ρ with
  | stuck => exact False.elim
  | exc c => exact fun G => G
  | ok p =>
    cases p with
    | lst l =>
      intro G v H1 s1 r1
      cases (show Rep X.K H1 (OO O0 σ ρ) v (.lst l) from r1) with
      | @lst a vs _ h n r =>
        refine ⟨a, vs, rfl, .inl (.inl h), G _ _ s1 ⟨fun i H O k hi => ?_, fun i H O k hi => ⟨vs, .inl (.inl (k _ _ h n).1), by rw [enumL_len] at hi; rw [r.length]; exact hi⟩, fun i H O x H' p k al hp hy => ?_⟩⟩
        · rw [enumL_len] at hi
          obtain ⟨v, hv, _⟩ := r.get (List.getElem?_eq_getElem hi)
          exact ⟨vs, v, .inl (.inl (k _ _ h n).1), hv⟩
        · obtain ⟨T, y, rfl, hT, rfl, hx⟩ := hy
          obtain ⟨q, hq, rq⟩ := r.get' (hx vs (.inl (.inl (k _ _ h n).1)))
          rw [enumL_get, hq] at hp
          cases hp
          rw [Nat.zero_add]
          exact ⟨same_new hT, .tup (.inl ⟨upd_same, fun z => al T z hT⟩) (.cons (.int _) (.cons ((kept_reps k rq).same (same_new hT)) .nil))⟩
    | _ => exact False.elim
end
def GotG (K : PySem.W.Frag) (H0 : Hp) (O0 : Addr → Prop) (H : Hp) (ts : List Nat) (σ : St) (ρ : Rho) (Q : St → Hp → Prop) : Option Rho → Prop
  | some ρ' => ∀ σ', StR K H0 O0 H σ' ρ' → (∀ a, OO O0 σ' ρ' a → OO O0 σ ρ a) → σ'.length = σ.length → (∀ (i : Nat), i ∉ ts → σ'[i]? = σ[i]? ∧ ρ'[i]? = ρ[i]?) → Q σ' H
  | none => False
def tG (K : PySem.W.Frag) (ts : List Nat) (h : PV → Rho → Option Rho) : TG := fun v σ H Q => ∃ H0 O0 ρ p, StR K H0 O0 H σ ρ ∧ Rep K H (OO O0 σ ρ) v p ∧ GotG K H0 O0 H ts σ ρ Q (h p ρ)
abbrev GJ (X : Cx) (tg : Expr) (ts : List Nat) (h : PV → Rho → Option Rho) : Prop := PG X tg (tG X.K ts h)
theorem pg_imp {X : Cx} {tg : Expr} {t t' : TG} (h : PG X tg t) (q : ∀ v σ H Q, t' v σ H Q → t v σ H Q) : PG X tg t' := ⟨fun pins s σ H v u Q I r hw => h.run pins s σ H v u Q I r (q v σ H Q hw)⟩
theorem pgs_imp {X : Cx} {tg : List Expr} {t t' : TGs} (h : PGs X tg t) (q : ∀ v σ H Q, t' v σ H Q → t v σ H Q) : PGs X tg t' := ⟨fun pins s σ H v u Q I r hw => h.run pins s σ H v u Q I r (q v σ H Q hw)⟩
def gN (i : Nat) : PV → Rho → Option Rho := fun p ρ => some (ρ.set i (.val p))
theorem g_name {X : Cx} {tg : Expr} {i : Nat} (h : PG X tg (gName i)) : GJ X tg [i] (gN i) := by
  refine pg_imp h fun v σ H Q ⟨H0, O0, ρ, p, S, r, G⟩ => ?_
  exact G _ (S.set (s := .val p) (fun _ z => nomatch z) (fun q z => by cases z; exact ⟨v, rfl, r⟩)) (fun a z => OO.set_val (s := .val p) (fun _ z => nomatch z) z) (List.length_set ..) fun j hj => have n : i ≠ j := fun e => hj (by rw [e]; exact List.mem_cons_self); ⟨List.getElem?_set_ne n, List.getElem?_set_ne n⟩
/-- several targets -/
def tGs (K : PySem.W.Frag) (ts : List Nat) (h : List PV → Rho → Option Rho) : TGs := fun vs σ H Q => ∃ H0 O0 ρ ps, StR K H0 O0 H σ ρ ∧ Reps K H (OO O0 σ ρ) vs ps ∧ GotG K H0 O0 H ts σ ρ Q (h ps ρ)
abbrev GJs (X : Cx) (tg : List Expr) (ts : List Nat) (h : List PV → Rho → Option Rho) : Prop := PGs X tg (tGs X.K ts h)
def gsNil : List PV → Rho → Option Rho
  | [], ρ => some ρ
  | _, _ => none
def gsCons (g : PV → Rho → Option Rho) (h : List PV → Rho → Option Rho) : List PV → Rho → Option Rho
  | p :: ps, ρ => (g p ρ).bind (h ps)
  | [], _ => none
section
variable {X : Cx} {e : Expr} {es : List Expr} {g : PV → Rho → Option Rho} {h : List PV → Rho → Option Rho} {pos : Pos} {ts us : List Nat}
theorem gs_nil : GJs X [] [] gsNil := by
  refine pgs_imp pgs_nil fun vs σ H Q ⟨H0, O0, ρ, ps, S, r, G⟩ => ?_
  cases ps with
  | nil => cases r; exact ⟨rfl, G σ S (fun _ z => z) rfl fun _ _ => ⟨rfl, rfl⟩⟩
  | cons p ps => exact G.elim
theorem gs_cons (h1 : GJ X e ts g) (h2 : GJs X es us h) (hs : (assignEach (e :: es) X.env).map (·.2) = assign e X.env :: (assignEach es X.env).map (·.2) := by rfl) : GJs X (e :: es) (ts ++ us) (gsCons g h) := by
  refine pgs_imp (pgs_cons h1 h2 hs) fun vs σ H Q ⟨H0, O0, ρ, ps, S, r, G⟩ => ?_
  cases r with
  | nil => exact G.elim
  | @cons v vs p ps r1 r2 =>
    refine ⟨v, vs, rfl, H0, O0, ρ, p, S, r1, ?_⟩
    have G' : GotG X.K H0 O0 H (ts ++ us) σ ρ Q ((g p ρ).bind (h ps)) := G
    revert G'
    cases g p ρ with
    | none => exact False.elim
    | some ρ1 =>
      intro G' σ1 S1 l1 e1 k1
      exact ⟨H0, O0, ρ1, ps, S1, r2.less l1, by
        revert G'
        rw [Option.bind_some]
        cases h ps ρ1 with
        | none => exact fun G => G
        | some ρ2 => exact fun G' σ2 S2 l2 e2 k2 => G' σ2 S2 (fun a z => l1 a (l2 a z)) (e2.trans e1) fun i hi => have a := k2 i fun z => hi (List.mem_append_right _ z); have b := k1 i fun z => hi (List.mem_append_left _ z); ⟨a.1.trans b.1, a.2.trans b.2⟩⟩
theorem draw_l {prog : Program} {w : World} {A : Around} {E : Value → Shared → Prop} {it l : Addr} {xs : Array Value} (ne : l ≠ it) : ∀ (k j : Nat) (u : Shared) (R : List Value → Shared → Prop), u.heap.IsListIter it l j → u.heap.IsList l xs → j + k ≤ xs.size →
    (∀ g, g.IsListIter it l (j + k) → Heap.SameBut it u.heap g → R ((xs.toList.drop j).take k) { u with heap := g }) → wpAny (model prog w) A (draw (.ref it) k) R E u
  | 0, j, u, R, _, _, _, q => wpAny_pure (by simpa using q u.heap (by simpa) (Heap.SameBut.refl ..))
  | k + 1, j, u, R, hi, hl, hs, q => by
    have lt : j < xs.size := by omega
    show wpAny (model prog w) A (pyNext (.ref it) >>= _) R E u
    refine wpAny_bind (wpAny_pyNext_list_item hi hl (x := xs[j]) (by simp [lt]) fun g1 i1 b1 => ?_)
    refine wpAny_bind (wpAny_holding (draw_l ne k (j + 1) _ _ i1 (hl.extBut b1.extBut ne) (by omega) fun g2 i2 b2 => wpAny_pure ?_))
    have z := q g2 (by rw [show j + (k + 1) = j + 1 + k by omega]; exact i2) (b1.trans b2)
    rw [show xs.toList.drop j = xs[j] :: xs.toList.drop (j + 1) by simp [List.drop_eq_getElem_cons, lt], List.take_succ_cons] at z
    exact z
theorem unp_l {prog : Program} {w : World} {A : Around} {E : Value → Shared → Prop} {u : Shared} {l : Addr} {xs : Array Value} {R : List Value → Shared → Prop} (hh : A.handled = none) (hl : u.heap.IsList l xs)
    (q : ∀ g, Heap.ExtBut u.heap.objs.size u.heap g → R xs.toList { u with heap := g }) : wpAny (model prog w) A (unpackItems (.ref l) xs.size none) R E u := by
  have ne : l ≠ u.heap.objs.size := by obtain ⟨o, ho, _⟩ := hl; exact Nat.ne_of_lt (Heap.lt_size ho)
  unfold unpackItems
  refine wpAny_bind ?_
  unfold notIterableAtAll
  refine wpAny_bind (wpAny_specialOf hl.typeIs slot_list_iter.lookup (wpAny_pure ?_))
  simp only [Bool.false_eq_true, if_false]
  refine wpAny_bind (wpAny_holding (wpAny_pyIter_list hl ?_))
  have h1 := hl.push { cls := .type "list_iterator", data := .fields #[.ref l, .int 0 0] }
  refine wpAny_bind (wpAny_holding (draw_l ne xs.size 0 _ _ ⟨_, Heap.get?_push_size _ rfl, rfl, rfl⟩ h1 (by omega) fun g1 i1 b1 => ?_))
  rw [show List.take xs.size (List.drop 0 xs.toList) = xs.toList by rw [List.drop_zero]; exact List.take_of_length_le (by simp)]
  rw [if_neg (by simp)]
  refine wpAny_bind (wpAny_holding (wpAny_pyNext_list_end hh i1 (h1.extBut b1.extBut ne) (by simp) fun g2 e2 => ?_))
  simp only [Option.isSome_none, Bool.false_eq_true, if_false]
  exact wpAny_pure (q g2 fun b o hb e => e2 b o hb (b1.extBut b o hb (Heap.get?_push_of_some _ e)))
def gSq (K : PySem.W.Frag) (n : Nat) (t : TGs) : TG := fun v σ H Q => ∃ a xs, v = .ref a ∧ (SqT K H a xs ∨ SqL K H a xs) ∧ xs.length = n ∧ t xs σ H Q
theorem pg_sq {X : Cx} {es : List Expr} {k n : Nat} {pos : Pos} {t : TGs} (hc : X.calm = true) (h : PGs X es t) (hn : (assignEach es X.env).length = n := by rfl) (hst : (assignEach es X.env).findIdx? (·.1) = none := by rfl) : PG X (.Tuple es k pos) (gSq X.K n t) := by
  refine ⟨fun pins s σ H v u Q I r g => ?_⟩
  obtain ⟨a, xs, e, hq | hq, hl, hw⟩ := g
  · exact (pg_tup hc h hn hst).run pins s σ H v u Q I r ⟨a, xs, e, hq, hl, hw⟩
  · subst e
    cases r
    obtain ⟨its, rv, pl, hz⟩ := I.list hq
    rw [assign_Tuple]
    refine wpAny_bind (wpAny_standAt ?_)
    unfold unpack
    have hsz : (assignEach es X.env).length = its.toArray.size := by simp [hn, ← hl, rv.length]
    rw [hsz, hst]
    refine wpAny_bind (wpAny_holding (unp_l (I.ok.hd hc) pl.isList fun g eb => ?_))
    have J : Inv X pins σ H { s with heap := g } := I.kept (t' := s.toks) fun b o e => eb b o (Nat.ne_of_lt (Heap.lt_size e)) e
    exact h.run pins _ σ H xs _ Q J (by simpa using rv) hw
def gT (h : List PV → Rho → Option Rho) : PV → Rho → Option Rho
  | .tup ps, ρ => h ps ρ
  | .lst ps, ρ => h ps ρ
  | _, _ => none
theorem g_tup {k n : Nat} (hc : X.calm = true) (h1 : GJs X es ts h) (hl : ∀ ps ρ ρ', h ps ρ = some ρ' → ps.length = n) (hn : (assignEach es X.env).length = n := by rfl) (hst : (assignEach es X.env).findIdx? (·.1) = none := by rfl) : GJ X (.Tuple es k pos) ts (gT h) := by
  refine pg_imp (pg_sq hc h1 hn hst) fun v σ H Q ⟨H0, O0, ρ, p, S, r, G⟩ => ?_
  have len : ∀ (ps : List PV), GotG X.K H0 O0 H ts σ ρ Q (h ps ρ) → ps.length = n := fun ps G' => by
    revert G'
    cases hh : h ps ρ with
    | none => exact False.elim
    | some ρ' => exact fun _ => hl ps ρ ρ' hh
  cases p with
  | tup ps =>
    cases r with
    | @tup a vs _ ha r => exact ⟨a, vs, rfl, .inl (sqT_of ha), by rw [r.length]; exact len ps G, H0, O0, ρ, ps, S, r, G⟩
  | lst ps =>
    cases r with
    | @lst a vs _ ha hn r => exact ⟨a, vs, rfl, .inr (.inl (.inl ha)), by rw [r.length]; exact len ps G, H0, O0, ρ, ps, S, r, G⟩
  | _ => exact G.elim
theorem gs_len : ∀ {n : Nat} {g : PV → Rho → Option Rho} {h : List PV → Rho → Option Rho}, (∀ ps ρ ρ', h ps ρ = some ρ' → ps.length = n) → ∀ ps ρ ρ', gsCons g h ps ρ = some ρ' → ps.length = n + 1 := by
  intro n g h hl ps ρ ρ' e
  cases ps with
  | nil => cases e
  | cons p ps =>
    have e' : (g p ρ).bind (h ps) = some ρ' := e
    cases hg : g p ρ with
    | none => rw [hg] at e'; cases e'
    | some ρ1 =>
      rw [hg, Option.bind_some] at e'
      rw [List.length_cons, hl ps ρ1 ρ' e']
theorem gs_len0 : ∀ ps ρ ρ', gsNil ps ρ = some ρ' → ps.length = 0 := by
  intro ps ρ ρ' e
  cases ps with
  | nil => rfl
  | cons p ps => cases e
end
end PL
set_option Elab.async false
set_option linter.all false
set_option maxRecDepth 100000
set_option autoImplicit false
namespace PL
open PySem PySem.Spec L2
open PyProof.Rows hiding St
def wipeR (ρ : Rho) : List Nat → Rho
  | [] => ρ
  | v :: vs => (wipeR ρ vs).set v .un
def notOwn (ρ : Rho) (v : Nat) : Bool := match ρ[v]? with
  | some (.own _) => false
  | _ => true
theorem wipe_get (σ : St) : ∀ (vs : List Nat) (i : Nat), (wipe σ vs)[i]? = if i ∈ vs then (if i < σ.length then some none else none) else σ[i]?
  | [], i => by simp [wipe]
  | v :: vs, i => by
    unfold wipe
    by_cases e : v = i
    · subst e
      rw [if_pos List.mem_cons_self]
      by_cases h : v < σ.length
      · rw [if_pos h, List.getElem?_set_self (by rw [wipe_length]; exact h)]
      · rw [if_neg h, List.getElem?_eq_none (by rw [List.length_set, wipe_length]; omega)]
    · rw [List.getElem?_set_ne e, wipe_get σ vs i]
      have : i ∈ v :: vs ↔ i ∈ vs := by
        rw [List.mem_cons]
        exact ⟨fun z => z.elim (fun z => absurd z.symm e) id, .inr⟩
      simp only [this]
theorem wipe_back {σ σ2 : St} {vs : List Nat} (hl : σ2.length = (wipe σ vs).length) (h : ∀ (i : Nat), i ∉ vs → σ2[i]? = (wipe σ vs)[i]?) : wipe σ2 vs = wipe σ vs := by
  refine List.ext_getElem? fun i => ?_
  rw [wipe_get σ2 vs i]
  by_cases hi : i ∈ vs
  · rw [if_pos hi, hl, wipe_length, wipe_get σ vs i, if_pos hi]
  · rw [if_neg hi, h i hi]
theorem wipe_st {K : PySem.W.Frag} {H0 H : Hp} {O0 : Addr → Prop} {σ : St} {ρ : Rho} (S : StR K H0 O0 H σ ρ) : ∀ vs : List Nat, StR K H0 O0 H (wipe σ vs) (wipeR ρ vs) ∧ ∀ a, OO O0 (wipe σ vs) (wipeR ρ vs) a → OO O0 σ ρ a
  | [] => ⟨S, fun _ z => z⟩
  | v :: vs => by
    obtain ⟨S1, l1⟩ := wipe_st S vs
    exact ⟨S1.set (s := .un) (fun _ z => nomatch z) (fun _ z => nomatch z), fun a z => l1 a (OO.set_val (s := .un) (fun _ z => nomatch z) z)⟩
theorem wipeR_get (ρ : Rho) : ∀ (vs : List Nat) (i : Nat), i ∉ vs → (wipeR ρ vs)[i]? = ρ[i]?
  | [], i, _ => rfl
  | v :: vs, i, h => by
    rw [List.mem_cons, not_or] at h
    unfold wipeR
    rw [List.getElem?_set_ne (Ne.symm h.1), wipeR_get ρ vs i h.2]
theorem wipe_oo {O0 : Addr → Prop} {σ : St} {ρ : Rho} {vs : List Nat} (hn : vs.all (notOwn ρ) = true) {a : Addr} (h : OO O0 σ ρ a) : OO O0 (wipe σ vs) (wipeR ρ vs) a := by
  rcases h with h | ⟨i, ps, h1, h2⟩
  · exact .inl h
  · have hi : i ∉ vs := fun hi => by
      have := List.all_eq_true.mp hn i hi
      unfold notOwn at this
      rw [h1] at this
      cases this
    exact .inr ⟨i, ps, by rw [wipeR_get ρ vs i hi]; exact h1, by rw [wipe_get, if_neg hi]; exact h2⟩
/-- what the turns make of the items -/
def lcGo (tgt : PV → Rho → Option Rho) (test : Rho → R Bool) (elt : Rho → R PV) (ρ : Rho) : List PV → R (List PV)
  | [] => .ok []
  | p :: ps => match tgt p ρ with
    | none => .stuck
    | some ρ1 => match test ρ1 with
      | .ok true => (match elt ρ1 with
        | .ok q => (match lcGo tgt test elt ρ ps with
          | .ok qs => .ok (q :: qs)
          | _ => .stuck)
        | _ => .stuck)
      | .ok false => lcGo tgt test elt ρ ps
      | _ => .stuck
def eLc (vs : List Nat) (it : Rho → R (List PV)) (tgt : PV → Rho → Option Rho) (test : Rho → R Bool) (elt : Rho → R PV) : Rho → R PV := fun ρ =>
  if vs.all (notOwn ρ) = true then (it ρ).bind fun items => if items.length ≤ sizeLine then (match lcGo tgt test elt (wipeR ρ vs) items with
    | .ok qs => .ok (.lst qs)
    | _ => .stuck) else .stuck
  else .stuck
abbrev CJ (X : Cx) (W : WX) (ifs : List Expr) (f : Rho → R Bool) : Prop := PTs X ifs (tT X.K X.mg W f)
def cYes : Rho → R Bool := fun _ => .ok true
abbrev WF : WX := fun _ _ _ _ => False
section
variable {X : Cx} {W : WX} {e tg it : Expr} {pos : Pos} {f g h : Rho → R PV}
theorem c_nil : CJ X W [] cYes := by
  refine ⟨fun pins s σ H Q I ⟨H0, O0, ρ, S, G⟩ => pts_nil.run pins s σ H Q I (G H (Same.refl H))⟩
theorem c_one {c : Expr} {t : Rho → R Bool} (h : TJ X W c t) : CJ X W [c] t := pts_one h
theorem bump {K : PySem.W.Frag} {H0 H : Hp} {O0 : Addr → Prop} {σ : St} {ρ : Rho} {D : Addr} {o : HO} (S : StR K H0 O0 H σ ρ) (hD : O0 D) (h0 : H0 D = none) {us : List V} (hl : H D = some (.lst us)) (hno : ∀ xs, o ≠ .tup xs := by intro _ z; cases z) : StR K H0 O0 (upd H D o) σ ρ := by
  have k : ∀ a u, H a = some u → ¬ OO O0 σ ρ a → upd H D o a = some u ∧ ¬ OO O0 σ ρ a := fun a u h n => ⟨by rw [upd_ne (fun z => n (by rw [z]; exact .inl hD))]; exact h, n⟩
  refine ⟨S.len, fun b x h => by rw [upd_ne (fun z => by rw [z, h0] at h; cases h)]; exact S.same b x h, fun a h => ?_, fun i ps h => ?_, S.dis, fun i p h => ?_, S.exs, dds_later S.dds (fun a l e => by rw [upd_ne (fun z => by rw [z, hl] at e; cases e)]; exact e) fun b xs _ e => by
    by_cases q : b = D
    · rw [q, upd_same] at e; exact absurd (Option.some.inj e) (hno xs)
    · rw [upd_ne q] at e; exact e⟩
  · by_cases e : a = D
    · rw [e, upd_same]; exact fun z => nomatch z
    · rw [upd_ne e]; exact S.all0 a h
  · obtain ⟨a, vs, e1, e2, e3, e4, e5⟩ := S.own i ps h
    exact ⟨a, vs, e1, by rw [upd_ne (fun z => e4 (by rw [z]; exact hD))]; exact e2, e3, e4, e5.mono k⟩
  · obtain ⟨v, e1, e2⟩ := S.val i p h
    exact ⟨v, e1, e2.mono k⟩
/-- another address is forbidden: one that is new -/
theorem forbid {K : PySem.W.Frag} {H0 H : Hp} {O0 : Addr → Prop} {σ : St} {ρ : Rho} {D : Addr} {o : HO} (S : StR K H0 O0 H σ ρ) (hD : H D = none) (hno : ∀ xs, o ≠ .tup xs := by intro _ z; cases z) : StR K H0 (fun b => O0 b ∨ b = D) (upd H D o) σ ρ := by
  have oo : ∀ a, OO (fun b => O0 b ∨ b = D) σ ρ a → OO O0 σ ρ a ∨ a = D := fun a z => by
    rcases z with (z | z) | z
    · exact .inl (.inl z)
    · exact .inr z
    · exact .inl (.inr z)
  have k : ∀ a u, H a = some u → ¬ OO O0 σ ρ a → upd H D o a = some u ∧ ¬ OO (fun b => O0 b ∨ b = D) σ ρ a := fun a u h n => ⟨same_new hD a u h, fun z => (oo a z).elim n (ne_of_none h hD)⟩
  refine ⟨S.len, fun b x h => same_new hD b x (S.same b x h), fun a h => ?_, fun i ps h => ?_, S.dis, fun i p h => ?_, S.exs, fun i a l e => by
    obtain ⟨e1, e2, e3, e4, e5, e6⟩ := S.dds i a l e
    refine ⟨e1, same_new hD _ _ e2, .inl e3, e4, e5, fun b xs o z => ?_⟩
    by_cases q : b = D
    · rw [q, upd_same] at z; exact absurd (Option.some.inj z) (hno xs)
    · rw [upd_ne q] at z
      exact o.elim (fun o => e6 b xs o z) q⟩
  · rcases h with h | h
    · cases q : H a with
      | none => exact absurd q (S.all0 a h)
      | some u => rw [same_new hD a u q]; exact fun z => nomatch z
    · rw [h, upd_same]; exact fun z => nomatch z
  · obtain ⟨a, vs, e1, e2, e3, e4, e5⟩ := S.own i ps h
    exact ⟨a, vs, e1, same_new hD _ _ e2, e3, fun z => z.elim e4 (ne_of_none e2 hD), e5.mono k⟩
  · obtain ⟨v, e1, e2⟩ := S.val i p h
    exact ⟨v, e1, e2.mono k⟩
theorem lc_run {wi : Rho → R (List PV)} {tgt : PV → Rho → Option Rho} {test : Rho → R Bool} {elt : Rho → R PV} {vs ts : List Nat} (hts : ∀ i ∈ ts, i ∈ vs) {K : PySem.W.Frag} {mg : Str → Option Value} :
    ∀ σ H Q, tE K mg W .f (eLc vs wi tgt test elt) σ H Q → tLc (tI K mg W wi) (tG K ts tgt) (tT K mg WF test) (tE K mg WF .s elt) vs σ H Q := by
  intro σ H Q ⟨H0, O0, ρ, S, G⟩
  refine ⟨H0, O0, ρ, S, ?_⟩
  revert G
  unfold eLc
  split
  · rename_i hn
    cases wi ρ with
    | stuck => exact False.elim
    | exc c => exact fun G => G
    | ok items =>
      rw [R.bind_ok]
      split
      · rename_i hz
        intro G J H1 s1 ok D hD
        cases hq : lcGo tgt test elt (wipeR ρ vs) items with
        | stuck => rw [hq] at G; exact G.elim
        | exc c => rw [hq] at G; exact absurd G (fun G => by exact (show False from G))
        | ok qs =>
          rw [hq] at G
          have S1 := S.step s1
          obtain ⟨S2, l2⟩ := wipe_st S1 vs
          have hH0 : H0 D = none := S1.same.free hD
          have S3 : StR K H0 (fun b => O0 b ∨ b = D) (upd H1 D (.lst [])) (wipe σ vs) (wipeR ρ vs) := forbid S2 hD
          have OD : OO (fun b => O0 b ∨ b = D) (wipe σ vs) (wipeR ρ vs) D := .inl (.inr rfl)
          have oo : ∀ a, OO (fun b => O0 b ∨ b = D) (wipe σ vs) (wipeR ρ vs) a → OO O0 σ ρ a ∨ a = D := fun a z => by
            rcases z with (z | z) | z
            · exact .inl (.inl z)
            · exact .inr z
            · exact .inl (l2 a (.inr z))
          refine ⟨fun i m Hc => m = items.length - i ∧ i ≤ items.length ∧ Same H1 Hc ∧ StR K H0 (fun b => O0 b ∨ b = D) Hc (wipe σ vs) (wipeR ρ vs) ∧
              ∃ ws ps rs, Hc D = some (.lst ws) ∧ Reps K Hc (OO (fun b => O0 b ∨ b = D) (wipe σ vs) (wipeR ρ vs)) ws ps ∧ ps.length ≤ i ∧ lcGo tgt test elt (wipeR ρ vs) (items.drop i) = .ok rs ∧ qs = ps ++ rs,
            ⟨items.length, by simp, Nat.zero_le _, same_new hD, S3, [], [], qs, upd_same, .nil, Nat.zero_le _, by rw [List.drop_zero]; exact hq, rfl⟩, ?_⟩
          rintro i m Hc ⟨rfl, hi, sc, Sc, ws, ps, rs, hDc, rc, hpl, hgo, hqs⟩
          have kept : Kept (OO O0 σ ρ) H1 (OO (fun b => O0 b ∨ b = D) (wipe σ vs) (wipeR ρ vs)) Hc := fun a o h n => ⟨sc a o h, fun z => (oo a z).elim n (ne_of_none h hD)⟩
          have alloc : ∀ a, OO (fun b => O0 b ∨ b = D) (wipe σ vs) (wipeR ρ vs) a → Hc a ≠ none := fun a z => Sc.there z
          by_cases hlt : i < items.length
          · refine .inr ⟨ok.go i Hc _ kept hlt, _, fun H' n => ⟨items.length - (i + 1), by omega, rfl, hlt, n⟩, fun x Hy hy => ?_⟩
            have hg : items[i]? = some items[i] := List.getElem?_eq_getElem hlt
            obtain ⟨sy, ry⟩ := ok.yld i Hc _ x Hy _ kept alloc hg hy
            have hdr : items.drop i = items[i] :: items.drop (i + 1) := List.drop_eq_getElem_cons hlt
            rw [hdr] at hgo
            refine ⟨H0, _, wipeR ρ vs, items[i], Sc.step sy, ry, ?_⟩
            unfold lcGo at hgo
            cases ht : tgt items[i] (wipeR ρ vs) with
            | none => rw [ht] at hgo; cases hgo
            | some ρ1 =>
              rw [ht] at hgo
              intro σ2 Sg lg eg kg
              refine ⟨wipe_back eg fun j hj => (kg j fun z => hj (hts j z)).1, H0, _, ρ1, Sg, ?_⟩
              have hgo : (match test ρ1 with
                | .ok true => (match elt ρ1 with
                  | .ok q => (match lcGo tgt test elt (wipeR ρ vs) (items.drop (i + 1)) with
                    | .ok qs => .ok (q :: qs)
                    | _ => .stuck)
                  | _ => .stuck)
                | .ok false => lcGo tgt test elt (wipeR ρ vs) (items.drop (i + 1))
                | _ => .stuck) = (.ok rs : R (List PV)) := hgo
              cases hte : test ρ1 with
              | stuck => rw [hte] at hgo; cases hgo
              | exc c => rw [hte] at hgo; cases hgo
              | ok b =>
                rw [hte] at hgo
                intro H3 s3
                cases b with
                | false =>
                  rw [if_neg Bool.false_ne_true]
                  have s13 := (sc.trans sy).trans s3
                  exact ⟨s13, Sc.step (sy.trans s3), ws, ps, rs, (sy.trans s3) _ _ hDc, rc.same (sy.trans s3), by omega, hgo, hqs⟩
                | true =>
                  rw [if_pos rfl]
                  refine ⟨H0, _, ρ1, Sg.step s3, ?_⟩
                  have hgo : (match elt ρ1 with
                    | .ok q => (match lcGo tgt test elt (wipeR ρ vs) (items.drop (i + 1)) with
                      | .ok qs => .ok (q :: qs)
                      | _ => .stuck)
                    | _ => .stuck) = (.ok rs : R (List PV)) := hgo
                  cases hel : elt ρ1 with
                  | stuck => rw [hel] at hgo; cases hgo
                  | exc c => rw [hel] at hgo; cases hgo
                  | ok q =>
                    rw [hel] at hgo
                    have hgo : (match lcGo tgt test elt (wipeR ρ vs) (items.drop (i + 1)) with
                      | .ok qs => .ok (q :: qs)
                      | _ => .stuck) = (.ok rs : R (List PV)) := hgo
                    cases hre : lcGo tgt test elt (wipeR ρ vs) (items.drop (i + 1)) with
                    | stuck => rw [hre] at hgo; cases hgo
                    | exc c => rw [hre] at hgo; cases hgo
                    | ok rs' =>
                      rw [hre] at hgo
                      cases hgo
                      intro y H4 s4 r4
                      have s34 := (sy.trans s3).trans s4
                      have r4 : Rep K H4 (OO (fun b => O0 b ∨ b = D) σ2 ρ1) y q := r4
                      refine ⟨ws, s34 _ _ hDc, by rw [rc.length]; omega, ?_⟩
                      have nD : ∀ {b : Addr} {o : HO} {O : Addr → Prop}, O D → H4 b = some o → ¬ O b → upd H4 D (.lst (ws ++ [y])) b = some o ∧ ¬ O b := fun {b o O} hO h n => ⟨by rw [upd_ne (fun z => n (by rw [z]; exact hO))]; exact h, n⟩
                      refine ⟨fun b o h => ?_, bump (Sc.step s34) (.inr rfl) hH0 (s34 _ _ hDc), ws ++ [y], ps ++ [q], rs', upd_same, ?_, by rw [List.length_append]; simp; omega, rfl, by rw [hqs, List.append_assoc]; rfl⟩
                      · rw [upd_ne (ne_of_none h hD)]; exact s34 _ _ (sc _ _ h)
                      · refine Reps.append ((rc.same s34).mono fun b o h n => nD OD h n) (.cons ?_ .nil)
                        refine r4.mono fun b o h n => ?_
                        have hb : b ≠ D := fun z => n (by rw [z]; exact .inl (.inr rfl))
                        refine ⟨by rw [upd_ne hb]; exact h, fun z => ?_⟩
                        rcases z with z | ⟨j, us, z1, z2⟩
                        · exact n (.inl z)
                        · have hj : j ∉ vs := fun hj => by
                            have z3 : (wipeR ρ vs)[j]? = some (.own us) := z1
                            have z4 : (wipe σ vs)[j]? = some (some (.ref b)) := z2
                            rw [wipe_get, if_pos hj] at z4
                            split at z4 <;> cases z4
                          have kj := kg j fun z => hj (hts j z)
                          exact n (.inr ⟨j, us, by rw [kj.2]; exact z1, by rw [kj.1]; exact z2⟩)
          · have e : i = items.length := by omega
            subst e
            rw [List.drop_length] at hgo
            cases hgo
            rw [List.append_nil] at hqs
            subst hqs
            refine .inl ⟨ok.stop _ Hc _ kept (Nat.le_refl _), G _ _ (s1.trans sc) (.inr ⟨D, ws, _, rfl, rfl, s1.free hD, hDc, rc.less fun a z => ?_⟩)⟩
            rcases z with z | z
            · rcases wipe_oo hn z with z | z
              · exact .inl (.inl z)
              · exact .inr z
            · rw [z]; exact OD
      · exact False.elim
  · exact False.elim
variable {ifs : List Expr} {scope : Scope} {own : List (Str × Nat)} {wi : Rho → R (List PV)} {tgt : PV → Rho → Option Rho} {test : Rho → R Bool} {elt : Rho → R PV} {ts : List Nat}
theorem e_lc (hc : X.calm = true) (hN : X.N.Nodup) (hi : IJ X W tg it wi) (ok : BlkOk X.N X.env.scope scope own) (hts : ∀ i ∈ ts, i ∈ own.map (·.2))
    (hg : ∀ (s : Shared) (H : Hp) (C : Addr) (cl : List (Str × Addr)) (fp : List Addr), GJ (X.blk s H scope (compEnvC scope cl C X.env) fp) tg ts tgt)
    (ht : ∀ (s : Shared) (H : Hp) (C : Addr) (cl : List (Str × Addr)) (fp : List Addr), CJ (X.blk s H scope (compEnvC scope cl C X.env) fp) WF ifs test)
    (he : ∀ (s : Shared) (H : Hp) (C : Addr) (cl : List (Str × Addr)) (fp : List Addr), EJ (X.blk s H scope (compEnvC scope cl C X.env) fp) WF .s e elt)
    (hs : ∀ x, foldedSetIterable it X.env x = pure x := by intro _; rfl) : EJ X W .f (.ListComp e [⟨tg, it, ifs, 0⟩] scope pos) (eLc (own.map (·.2)) wi tgt test elt) :=
  pe_imp (pe_lc hc hN hi ok hg ht he hs) (lc_run hts)
end
inductive Out where
  | next (ρ : Rho) | ret (p : PV) | brk (ρ : Rho) | cont (ρ : Rho) | exc (c : Str) (ρ : Rho) | stuck
def GotS (K : PySem.W.Frag) (mg : Str → Option Value) (W : WX) (nw : Bool) (H0 : Hp) (O0 : Addr → Prop) (σ : St) (ρ : Rho) (H : Hp) (D : Ends) : Out → Prop
  | .next ρ' => ∀ σ' H', StR K H0 O0 H' σ' ρ' → Kept (OO O0 σ ρ) H (OO O0 σ' ρ') H' → D.nx σ' H'
  | .brk ρ' => ∀ σ' H', StR K H0 O0 H' σ' ρ' → Kept (OO O0 σ ρ) H (OO O0 σ' ρ') H' → D.bk σ' H'
  | .cont ρ' => ∀ σ' H', StR K H0 O0 H' σ' ρ' → Kept (OO O0 σ ρ) H (OO O0 σ' ρ') H' → D.ct σ' H'
  | .ret p => ∀ v H', Same H0 H' → RepR K O0 nw H0 H' v p → D.rt v H'
  | .exc c ρ' => ∀ C σ' H', mg c = some (.ref C) → StR K H0 O0 H' σ' ρ' → Kept (OO O0 σ ρ) H (OO O0 σ' ρ') H' → W (.ref C) none σ' H'
  | .stuck => False
def tS (K : PySem.W.Frag) (mg : Str → Option Value) (W : WX) (nw : Bool) (g : Rho → Out) : TS := fun D σ H =>
  ∃ H0 O0 ρ, StR K H0 O0 H σ ρ ∧ GotS K mg W nw H0 O0 σ ρ H D (g ρ)
abbrev SJ (X : Cx) (W : WX) (nw : Bool) (st : Stmt) (g : Rho → Out) : Prop := PS X st (tS X.K X.mg W nw g)
abbrev BJ (X : Cx) (W : WX) (nw : Bool) (st : List Stmt) (g : Rho → Out) : Prop := PSs X st (tS X.K X.mg W nw g)
def Out.then (o : Out) (k : Rho → Out) : Out := match o with
  | .next ρ => k ρ
  | o => o
section
variable {K : PySem.W.Frag} {mg : Str → Option Value} {W : WX} {nw : Bool} {H0 H H1 : Hp} {O0 : Addr → Prop} {σ σ1 : St} {ρ ρ1 : Rho} {D : Ends}
theorem GotS.later {o : Out} (k : Kept (OO O0 σ ρ) H (OO O0 σ1 ρ1) H1) (G : GotS K mg W nw H0 O0 σ ρ H D o) : GotS K mg W nw H0 O0 σ1 ρ1 H1 D o := by
  cases o with
  | next ρ' => exact fun σ' H' S k' => G σ' H' S (k.trans k')
  | brk ρ' => exact fun σ' H' S k' => G σ' H' S (k.trans k')
  | cont ρ' => exact fun σ' H' S k' => G σ' H' S (k.trans k')
  | ret p => exact G
  | exc c ρ' => exact fun C σ' H' e S k' => G C σ' H' e S (k.trans k')
  | stuck => exact G
/-- an expression's exception, from the statement's -/
theorem exc_of {c : Str} (S : StR K H0 O0 H σ ρ) (G : GotS K mg W nw H0 O0 σ ρ H D (.exc c ρ)) : ∀ C H', Same H H' → mg c = some (.ref C) → W (.ref C) none σ H' :=
  fun C H' s e => G C σ H' e (S.step s) (Kept.same s)
theorem kept_set {i : Nat} {v : Option V} {s : Slot} (hs : ∀ ps, s ≠ .own ps) (sm : Same H H1) : Kept (OO O0 σ ρ) H (OO O0 (σ.set i v) (ρ.set i s)) H1 := fun a o h n => ⟨sm a o h, fun z => n (OO.set_val hs z)⟩
theorem kept_own {i : Nat} {a : Addr} {ps : List PV} (hn : H a = none) (sm : Same H H1) : Kept (OO O0 σ ρ) H (OO O0 (σ.set i (some (.ref a))) (ρ.set i (.own ps))) H1 := fun b o h n => ⟨sm b o h, fun z => by
  rcases z with z | ⟨j, qs, h1, h2⟩
  · exact n (.inl z)
  · by_cases e : i = j
    · subst e
      by_cases hl : i < σ.length
      · rw [List.getElem?_set_self hl] at h2; cases h2
        exact ne_of_none h hn rfl
      · rw [List.getElem?_eq_none (by rw [List.length_set]; omega)] at h2; cases h2
    · rw [List.getElem?_set_ne e] at h1 h2
      exact n (.inr ⟨j, qs, h1, h2⟩)⟩
end
section
variable {X : Cx} {W : WX} {nw : Bool} {st : Stmt} {rest : List Stmt} {e : Expr} {pos : Pos} {f : Rho → R PV} {g h : Rho → Out}
theorem ps_imp {t t' : TS} (h : PS X st t) (q : ∀ D σ H, t' D σ H → t D σ H) : PS X st t' := ⟨fun pins s σ H D I hw => h.run pins s σ H D I (q D σ H hw)⟩
theorem pss_imp {sts : List Stmt} {t t' : TS} (h : PSs X sts t) (q : ∀ D σ H, t' D σ H → t D σ H) : PSs X sts t' := ⟨fun pins s σ H D I hw => h.run pins s σ H D I (q D σ H hw)⟩
def bNil : Rho → Out := .next
def bSeq (g h : Rho → Out) : Rho → Out := fun ρ => (g ρ).then h
theorem b_nil : BJ X W nw [] bNil := by
  refine pss_imp pss_nil fun D σ H ⟨H0, O0, ρ, S, G⟩ => ?_
  exact G σ H S (Kept.refl _ _)
theorem b_cons (h1 : SJ X W nw st g) (h2 : BJ X W nw rest h) : BJ X W nw (st :: rest) (bSeq g h) := by
  refine pss_imp (pss_cons h1 h2) fun D σ H ⟨H0, O0, ρ, S, G⟩ => ⟨H0, O0, ρ, S, ?_⟩
  have G' : GotS X.K X.mg W nw H0 O0 σ ρ H D ((g ρ).then h) := G
  revert G'
  cases g ρ with
  | next ρ' => exact fun G' σ' H' S' k => ⟨H0, O0, ρ', S', GotS.later k G'⟩
  | ret p => exact fun G => G
  | brk ρ' => exact fun G => G
  | cont ρ' => exact fun G => G
  | exc c ρ' => exact fun G => G
  | stuck => exact fun G => G
/-- by an expression, then on -/
def sE (f : Rho → R PV) (k : PV → Rho → Out) : Rho → Out := fun ρ => match f ρ with
  | .ok p => k p ρ
  | .exc c => .exc c ρ
  | .stuck => .stuck
theorem got_e {K : PySem.W.Frag} {mg : Str → Option Value} {H0 H : Hp} {O0 : Addr → Prop} {σ : St} {ρ : Rho} {D : Ends} {m : Md} {k : PV → Rho → Out} {Q : VK} (S : StR K H0 O0 H σ ρ) (G : GotS K mg W nw H0 O0 σ ρ H D (sE f k ρ))
    (hk : ∀ p v H', Same H H' → RepM K O0 σ ρ m H H' v p → GotS K mg W nw H0 O0 σ ρ H D (k p ρ) → Q v H') : Got K mg W O0 σ ρ m H Q (f ρ) := by
  revert G
  unfold sE
  cases f ρ with
  | ok p => exact fun G v H' s r => hk p v H' s r G
  | exc c => exact fun G => exc_of S G
  | stuck => exact fun G => G
def sDrop (f : Rho → R PV) : Rho → Out := sE f fun _ ρ => .next ρ
theorem s_expr {m : Md} (he : EJ X W m e f) (hs : swapsWith e none pos.line X.env = pure false := by rfl) : SJ X W nw (.Expr e pos) (sDrop f) := by
  refine ps_imp (ps_expr he hs) fun D σ H ⟨H0, O0, ρ, S, G⟩ => ⟨H0, O0, ρ, S, got_e S G fun p v H' s r G => ?_⟩
  exact G σ H' (S.step s) (Kept.same s)
def sRet (f : Rho → R PV) : Rho → Out := sE f fun p _ => .ret p
theorem s_ret (he : EJ X W .s e f) : SJ X W false (.Return (some e) pos) (sRet f) := by
  refine ps_imp (ps_ret he) fun D σ H ⟨H0, O0, ρ, S, G⟩ => ⟨H0, O0, ρ, S, got_e S G fun p v H' s r G => ?_⟩
  exact G v H' (S.same.trans s) (Rep.less (fun _ z => .inl z) r)
theorem s_retF (he : EJ X W .f e f) : SJ X W true (.Return (some e) pos) (sRet f) := by
  refine ps_imp (ps_ret he) fun D σ H ⟨H0, O0, ρ, S, G⟩ => ⟨H0, O0, ρ, S, got_e S G fun p v H' s r G => ?_⟩
  rcases r with z | ⟨a, vs, ps, e1, e2, e3, e4, e5⟩
  · exact G v H' (S.same.trans s) (.inl z)
  · exact G v H' (S.same.trans s) (.inr ⟨a, vs, ps, e1, e2, S.same.free e3, e4, e5.less fun b z => z.elim (fun z => .inl (.inl z)) .inr⟩)
/-- a list of one's own is handed back -/
def sRetO (i : Nat) : Rho → Out := fun ρ => match ρ[i]? with
  | some (.own ps) => .ret (.lst ps)
  | _ => .stuck
theorem s_retO {i : Nat} (hp : PE X e (tVar i)) : SJ X W nw (.Return (some e) pos) (sRetO i) := by
  refine ps_imp (ps_ret hp) fun D σ H ⟨H0, O0, ρ, S, G⟩ => ?_
  unfold sRetO at G
  split at G
  · rename_i ps hq
    obtain ⟨a, vs, e1, e2, e3, e4, e5⟩ := S.own i ps hq
    refine ⟨.ref a, e1, G _ _ S.same ?_⟩
    cases nw with
    | false => exact .lst e2 e4 (e5.less fun _ z => .inl z)
    | true => exact .inr ⟨a, vs, ps, rfl, rfl, e3, e2, e5.less fun b z => z.elim .inl fun z => .inr ⟨i, ps, hq, by rw [z]; exact e1⟩⟩
  · exact G.elim
def sIf (t : Rho → R Bool) (g h : Rho → Out) : Rho → Out := fun ρ => match t ρ with
  | .ok true => g ρ
  | .ok false => h ρ
  | .exc c => .exc c ρ
  | .stuck => .stuck
theorem s_if {c : Expr} {a b : List Stmt} {t : Rho → R Bool} (hc : TJ X W c t) (ha : BJ X W nw a g) (hb : BJ X W nw b h) : SJ X W nw (.If c a b pos) (sIf t g h) := by
  refine ps_imp (ps_if hc ha hb) fun D σ H ⟨H0, O0, ρ, S, G⟩ => ⟨H0, O0, ρ, S, ?_⟩
  have G' : GotS X.K X.mg W nw H0 O0 σ ρ H D (match t ρ with
    | .ok true => g ρ
    | .ok false => h ρ
    | .exc c => .exc c ρ
    | .stuck => .stuck) := G
  revert G'
  cases t ρ with
  | ok b =>
    cases b with
    | true => exact fun G H' s => by show (if true = true then _ else _); exact iteT ⟨H0, O0, ρ, S.step s, GotS.later (Kept.same s) G⟩
    | false => exact fun G H' s => by show (if false = true then _ else _); exact iteF ⟨H0, O0, ρ, S.step s, GotS.later (Kept.same s) G⟩
  | exc c => exact fun G => exc_of S G
  | stuck => exact fun G => G
def sPass : Rho → Out := .next
def sSet (i : Nat) (f : Rho → R PV) : Rho → Out := sE f fun p ρ => .next (ρ.set i (.val p))
def sSetO (i : Nat) (f : Rho → R PV) : Rho → Out := sE f fun p ρ => match p with
  | .lst ps => .next (ρ.set i (.own ps))
  | _ => .stuck
theorem q_set {K : PySem.W.Frag} {mg : Str → Option Value} {i : Nat} {te : TE} (hte : ∀ σ H Q, tE K mg W .s f σ H Q → te σ H Q) : ∀ D σ H, tS K mg W nw (sSet i f) D σ H → tAsg te (gName i) D σ H := by
  intro D σ H ⟨H0, O0, ρ, S, G⟩
  refine hte _ _ _ ⟨H0, O0, ρ, S, got_e S G fun p v H' s r G => ?_⟩
  exact G _ H' ((S.step s).set (s := .val p) (fun _ z => nomatch z) fun q z => by cases z; exact ⟨v, rfl, r⟩) (kept_set (s := .val p) (fun _ z => nomatch z) s)
theorem q_setO {K : PySem.W.Frag} {mg : Str → Option Value} {i : Nat} {te : TE} (hte : ∀ σ H Q, tE K mg W .f f σ H Q → te σ H Q) : ∀ D σ H, tS K mg W nw (sSetO i f) D σ H → tAsg te (gName i) D σ H := by
  intro D σ H ⟨H0, O0, ρ, S, G⟩
  refine hte _ _ _ ⟨H0, O0, ρ, S, got_e S G fun p v H' s r G => ?_⟩
  rcases r with ⟨rfl, rfl⟩ | ⟨a, vs, ps, rfl, rfl, e3, e4, e5⟩
  · exact G.elim
  · exact G _ H' (S.setOwn s e3 e4 e5) (kept_own e3 s)
theorem s_set {i : Nat} {x : Str} {pos' : Pos} (hN : X.N.Nodup) (hi : X.N[i]? = some x) (hx : Loc X.env.scope x) (he : EJ X W .s e f) (hs : swapsWith e (some (.Name x pos')) pos.line X.env = pure false := by rfl) (hf : X.fn x = true ∨ X.env.scope.names.lookup x = some .local := by first | exact .inl rfl | exact .inr rfl | assumption) :
    SJ X W nw (.Assign [.Name x pos'] e pos) (sSet i f) := ps_imp (ps_set hN hi hx he hs hf) (q_set fun _ _ _ z => z)
theorem s_setO {i : Nat} {x : Str} {pos' : Pos} (hN : X.N.Nodup) (hi : X.N[i]? = some x) (hx : Loc X.env.scope x) (he : EJ X W .f e f) (hs : swapsWith e (some (.Name x pos')) pos.line X.env = pure false := by rfl) (hf : X.fn x = true ∨ X.env.scope.names.lookup x = some .local := by first | exact .inl rfl | exact .inr rfl | assumption) :
    SJ X W nw (.Assign [.Name x pos'] e pos) (sSetO i f) := ps_imp (ps_set hN hi hx he hs hf) (q_setO fun _ _ _ z => z)
/-- y = [.. for ..] -/
theorem lcs {i : Nat} {y : Str} {py : Pos} {tg it : Expr} {ifs : List Expr} {scope : Scope} {own : List (Str × Nat)} {spos : Pos} {wi : Rho → R (List PV)} {tgt : PV → Rho → Option Rho} {test : Rho → R Bool} {elt : Rho → R PV} {ts : List Nat} {t : TS}
    (hq : ∀ D σ H, t D σ H → tAsg (tLc (tI X.K X.mg W wi) (tG X.K ts tgt) (tT X.K X.mg WF test) (tE X.K X.mg WF .s elt) (own.map (·.2))) (gName i) D σ H) (hc : X.calm = true) (hN : X.N.Nodup) (hy : X.N[i]? = some y) (hyl : X.env.scope.names.lookup y = some .local)
    (hsw : swapsWith (.ListComp e [⟨tg, it, ifs, 0⟩] scope pos) (some (.Name y py)) spos.line X.env = pure true) (hi : IJ X W tg it wi) (ok : BlkOk X.N X.env.scope scope own)
    (hg : ∀ (s : Shared) (H : Hp) (C : Addr) (cl : List (Str × Addr)) (fp : List Addr), GJ (X.blk s H scope (compEnvC scope cl C X.env) fp) tg ts tgt)
    (ht : ∀ (s : Shared) (H : Hp) (C : Addr) (cl : List (Str × Addr)) (fp : List Addr), CJ (X.blk s H scope (compEnvC scope cl C X.env) fp) WF ifs test)
    (he : ∀ (s : Shared) (H : Hp) (C : Addr) (cl : List (Str × Addr)) (fp : List Addr), EJ (X.blk s H scope (compEnvC scope cl C X.env) fp) WF .s e elt)
    (hs : ∀ x, foldedSetIterable it X.env x = pure x := by intro _; rfl) : PS X (.Assign [.Name y py] (.ListComp e [⟨tg, it, ifs, 0⟩] scope pos) spos) t := ps_imp (ps_setLc hc hN hy hyl hsw hi ok hg ht he hs) hq
theorem q_lc {i : Nat} {wi : Rho → R (List PV)} {tgt : PV → Rho → Option Rho} {test : Rho → R Bool} {elt : Rho → R PV} {vs ts : List Nat} (hts : ∀ i ∈ ts, i ∈ vs) : ∀ D σ H, tS X.K X.mg W nw (sSet i (eLc vs wi tgt test elt)) D σ H → tAsg (tLc (tI X.K X.mg W wi) (tG X.K ts tgt) (tT X.K X.mg WF test) (tE X.K X.mg WF .s elt) vs) (gName i) D σ H :=
  q_set fun σ H Q ⟨H0, O0, ρ, S, G⟩ => lc_run hts σ H Q ⟨H0, O0, ρ, S, by
    revert G
    cases eLc vs wi tgt test elt ρ with
    | ok p => exact fun G v H' s r => G v H' s (RepM.f_s S r)
    | exc c => exact fun G => G
    | stuck => exact fun G => G⟩
/-- target = e -/
def sTo (h : PV → Rho → Option Rho) (f : Rho → R PV) : Rho → Out := sE f fun p ρ => match h p ρ with
  | some ρ' => .next ρ'
  | none => .stuck
theorem s_to {tg : Expr} {ts : List Nat} {h : PV → Rho → Option Rho} (he : EJ X W .s e f) (hg : GJ X tg ts h) (hs : swapsWithSole [tg] e pos.line X.env = pure false := by rfl) (hw : swappedStores [tg] e X.env = pure none := by rfl)
    (h1 : (assignEach [tg] X.env).map (·.2) = [assign tg X.env] := by rfl) : SJ X W nw (.Assign [tg] e pos) (sTo h f) := by
  refine ps_imp (ps_asg he hg hs hw h1) fun D σ H ⟨H0, O0, ρ, S, G⟩ => ⟨H0, O0, ρ, S, got_e S G fun p v H' s r G => ?_⟩
  refine ⟨H0, O0, ρ, p, S.step s, r, ?_⟩
  revert G
  cases h p ρ with
  | none => exact False.elim
  | some ρ' => exact fun G σ' S' l _ _ => G σ' H' S' fun a o ho n => ⟨s a o ho, fun z => n (l a z)⟩
/-- a, b = x, y -/
def sPar (i j : Nat) (fA : Rho → R (List PV)) : Rho → Out := fun ρ => match fA ρ with
  | .ok [p, q] => .next ((ρ.set i (.val p)).set j (.val q))
  | .exc c => .exc c ρ
  | _ => .stuck
theorem s_par {i j : Nat} {x y : Str} {a b : Expr} {fA : Rho → R (List PV)} {px py pt : Pos} {kt k2 pt2} (hc : X.calm = true) (hN : X.N.Nodup) (hi : X.N[i]? = some x) (hj : X.N[j]? = some y) (hij : i ≠ j)
    (hx : X.env.scope.names.lookup x = some .local) (hy : X.env.scope.names.lookup y = some .local) (ha : AJ X W .s [a, b] fA)
    (hw : swappedStores [.Tuple [.Name x px, .Name y py] kt pt] (.Tuple [a, b] k2 pt2) X.env = pure (some [x, y]))
    (hs : swapsWithSole [.Tuple [.Name x px, .Name y py] kt pt] (.Tuple [a, b] k2 pt2) pos.line X.env = pure false := by rfl) :
    SJ X W nw (.Assign [.Tuple [.Name x px, .Name y py] kt pt] (.Tuple [a, b] k2 pt2) pos) (sPar i j fA) := by
  refine ps_imp (ps_par hc hN hi hj hij hx hy ha hw hs) fun D σ H ⟨H0, O0, ρ, S, G⟩ => ⟨H0, O0, ρ, S, ?_⟩
  unfold sPar at G
  revert G
  cases fA ρ with
  | stuck => exact False.elim
  | exc c => exact fun G => exc_of S G
  | ok ps =>
    match ps with
    | [p, q] =>
      intro G vs H' s r
      obtain ⟨v, w, rfl, r1, r2⟩ := pr2 r
      refine ⟨v, w, rfl, ?_⟩
      have S1 := S.step s
      have S2 := S1.set (i := i) (v := some v) (s := .val p) (fun _ z => nomatch z) fun q z => by cases z; exact ⟨v, rfl, r1⟩
      have l1 : ∀ a, OO O0 (σ.set i (some v)) (ρ.set i (.val p)) a → OO O0 σ ρ a := fun a z => OO.set_val (s := .val p) (fun _ z => nomatch z) z
      have r2' : Rep X.K H' (OO O0 (σ.set i (some v)) (ρ.set i (.val p))) w q := Rep.less l1 r2
      have S3 := S2.set (i := j) (v := some w) (s := .val q) (fun _ z => nomatch z) fun q' z => by cases z; exact ⟨w, rfl, r2'⟩
      exact G _ H' S3 fun a o ho n => ⟨s a o ho, fun z => n (l1 a (OO.set_val (s := .val q) (fun _ z => nomatch z) z))⟩
    | [] => exact False.elim
    | [_] => exact False.elim
    | _ :: _ :: _ :: _ => exact False.elim
/-- x op= e, by values -/
def sAug (i : Nat) (g : PV → PV → R PV) (f : Rho → R PV) : Rho → Out := fun ρ => match ρ[i]? with
  | some (.val x) => sE (fun ρ => (f ρ).bind fun y => g x y) (fun z ρ => .next (ρ.set i (.val z))) ρ
  | _ => .stuck
theorem s_aug {i : Nat} {x : Str} {op : Operator} {r : R2} {g : PV → PV → R PV} {pos' : Pos} (hN : X.N.Nodup) (hi : X.N[i]? = some x) (hx : Loc X.env.scope x) (he : EJ X W .t e f) (hr : OpR X (inplaceOp op) r) (hg : ∀ p q c, g p q ≠ .exc c) (ho : OpS X.K r .t .t .s g) (hf : X.fn x = true ∨ X.env.scope.names.lookup x = some .local := by first | exact .inl rfl | exact .inr rfl | assumption) :
    SJ X W nw (.AugAssign (.Name x pos') op e pos) (sAug i g f) := by
  refine ps_imp (ps_aug hN hi hx he (ti := r) (fun pins s σ H x y v u Q I r1 r2 h => hr pins s σ H x y v u Q I r1 r2 h) hf) fun D σ H ⟨H0, O0, ρ, S, G⟩ => ?_
  unfold sAug at G
  split at G
  · rename_i p hp
    obtain ⟨v, e1, e2⟩ := S.val i p hp
    refine ⟨v, e1, H0, O0, ρ, S, ?_⟩
    have G' : GotS X.K X.mg W nw H0 O0 σ ρ H D (match (f ρ).bind fun y => g p y with
      | .ok z => .next (ρ.set i (.val z))
      | .exc c => .exc c ρ
      | .stuck => .stuck) := G
    revert G'
    cases f ρ with
    | stuck => exact False.elim
    | exc c => exact fun G => exc_of S G
    | ok q =>
      intro G y H1 s1 r1
      refine ho S s1 (RepM.s_t (H := H) (Rep.same s1 e2)) r1 ?_
      revert G
      rw [R.bind_ok]
      cases hz : g p q with
      | stuck => exact False.elim
      | exc c => exact absurd hz (hg p q c)
      | ok z => exact fun G w H2 s2 r2 => G _ H2 ((S.step (s1.trans s2)).set (s := .val z) (fun _ z => nomatch z) fun q z => by cases z; exact ⟨w, rfl, r2⟩) (kept_set (s := .val z) (fun _ z => nomatch z) (s1.trans s2))
  · exact G.elim
theorem s_augAdd {i : Nat} {x : Str} {pos' : Pos} (hN : X.N.Nodup) (hi : X.N[i]? = some x) (hx : Loc X.env.scope x) (he : EJ X W .t e f) (hf : X.fn x = true ∨ X.env.scope.names.lookup x = some .local := by first | exact .inl rfl | exact .inr rfl | assumption) :
    SJ X W nw (.AugAssign (.Name x pos') .Add e pos) (sAug i (intP (fun _ _ => true) fun a b => .int (a + b)) f) := s_aug hN hi hx he iop_add intP_exc (s_int0 fun _ _ _ _ => .int _) hf
theorem s_augMul {i : Nat} {x : Str} {pos' : Pos} (hN : X.N.Nodup) (hi : X.N[i]? = some x) (hx : Loc X.env.scope x) (he : EJ X W .t e f) (hf : X.fn x = true ∨ X.env.scope.names.lookup x = some .local := by first | exact .inl rfl | exact .inr rfl | assumption) :
    SJ X W nw (.AugAssign (.Name x pos') .Mult e pos) (sAug i mulP f) := s_aug hN hi hx he iop_mulW intP_exc (s_int (fun _ _ h => of_decide_eq_true h) fun _ _ _ _ => .int _) hf
/-- a list is let go -/
def sFrz (i : Nat) (g : Rho → Out) : Rho → Out := fun ρ => match ρ[i]? with
  | some (.own ps) => g (ρ.set i (.val (.lst ps)))
  | _ => g ρ
theorem s_frz {i : Nat} {sts : List Stmt} (h : BJ X W nw sts g) : BJ X W nw sts (sFrz i g) := by
  refine pss_imp h fun D σ H ⟨H0, O0, ρ, S, G⟩ => ?_
  unfold sFrz at G
  split at G
  · rename_i ps hp
    have k : Kept (OO O0 σ ρ) H (OO O0 σ (ρ.set i (.val (.lst ps)))) H := fun a o h n => ⟨h, fun z => n (by
      rcases z with z | ⟨j, qs, h1, h2⟩
      · exact .inl z
      · by_cases e : i = j
        · subst e
          rw [List.getElem?_set_self (List.getElem?_eq_some_iff.mp hp).1] at h1; cases h1
        · rw [List.getElem?_set_ne e] at h1
          exact .inr ⟨j, qs, h1, h2⟩)⟩
    exact ⟨H0, O0, _, S.freeze hp, GotS.later k G⟩
  · exact ⟨H0, O0, ρ, S, G⟩
end
end PL
set_option Elab.async false
set_option linter.all false
set_option maxRecDepth 100000
set_option autoImplicit false
namespace PL
open PySem PySem.Spec L2
open PyProof.Rows hiding St
section
variable {X : Cx} {W : WX} {nw : Bool} {st : Stmt} {rest : List Stmt} {e : Expr} {pos : Pos} {f : Rho → R PV} {g h : Rho → Out}
def forL (tgt : PV → Rho → Option Rho) (body : Rho → Out) : List PV → Rho → Out
  | [], ρ => .next ρ
  | p :: ps, ρ => match tgt p ρ with
    | none => .stuck
    | some ρ1 => match body ρ1 with
      | .next ρ' => forL tgt body ps ρ'
      | .cont ρ' => forL tgt body ps ρ'
      | .brk ρ' => .next ρ'
      | o => o
def sFor (it : Rho → R (List PV)) (tgt : PV → Rho → Option Rho) (body : Rho → Out) : Rho → Out := fun ρ => match it ρ with
  | .ok items => forL tgt body items ρ
  | .exc c => .exc c ρ
  | .stuck => .stuck
theorem s_for {tg it : Expr} {body : List Stmt} {wi : Rho → R (List PV)} {tgt : PV → Rho → Option Rho} {ts : List Nat} (hp : PassesOwn (model X.prog X.w) X.A X.env X.xe) (hc : X.calm = true) (hi : IJ X W tg it wi) (hg : GJ X tg ts tgt) (hb : BJ X W nw body g) (hs : ∀ x, foldedSetIterable it X.env x = pure x := by intro _; rfl) : SJ X W nw (.For tg it body [] pos) (sFor wi tgt g) := by
  refine ps_imp (ps_for hp hc hi hg hb hs) fun D σ H ⟨H0, O0, ρ, S, G⟩ => ⟨H0, O0, ρ, S, ?_⟩
  have G' : GotS X.K X.mg W nw H0 O0 σ ρ H D (match wi ρ with
    | .ok items => forL tgt g items ρ
    | .exc c => .exc c ρ
    | .stuck => .stuck) := G
  revert G'
  cases wi ρ with
  | stuck => exact False.elim
  | exc c => exact fun G => exc_of S G
  | ok items =>
    intro G J H1 s1 ok
    refine ⟨fun i m σc Hc => m = items.length - i ∧ i ≤ items.length ∧ ∃ ρc, StR X.K H0 O0 Hc σc ρc ∧ Kept (OO O0 σ ρ) H1 (OO O0 σc ρc) Hc ∧ GotS X.K X.mg W nw H0 O0 σc ρc Hc D (forL tgt g (items.drop i) ρc),
      ⟨items.length, by simp, Nat.zero_le _, ρ, S.step s1, Kept.refl _ _, by rw [List.drop_zero]; exact GotS.later (Kept.same s1) G⟩, ?_⟩
    rintro i m σc Hc ⟨rfl, hi, ρc, Sc, kc, Gc⟩
    by_cases hlt : i < items.length
    · refine .inr ⟨ok.go i Hc _ kc hlt, fun σ' H' => ∃ ρ', StR X.K H0 O0 H' σ' ρ' ∧ Kept (OO O0 σ ρ) H1 (OO O0 σ' ρ') H' ∧ GotS X.K X.mg W nw H0 O0 σ' ρ' H' D (forL tgt g (items.drop (i + 1)) ρ'), fun σ' H' n => ⟨items.length - (i + 1), by omega, rfl, hlt, n⟩, fun x Hy hy => ?_⟩
      have hg : items[i]? = some items[i] := List.getElem?_eq_getElem hlt
      obtain ⟨sy, ry⟩ := ok.yld i Hc _ x Hy _ kc (fun a z => Sc.there z) hg hy
      have hdr : items.drop i = items[i] :: items.drop (i + 1) := List.drop_eq_getElem_cons hlt
      rw [hdr] at Gc
      refine ⟨H0, O0, ρc, items[i], Sc.step sy, ry, ?_⟩
      unfold forL at Gc
      revert Gc
      cases tgt items[i] ρc with
      | none => exact False.elim
      | some ρ1 =>
        intro Gc σ2 S2 l2 _ _
        have k2 : Kept (OO O0 σc ρc) Hc (OO O0 σ2 ρ1) Hy := fun a o h n => ⟨sy a o h, fun z => n (l2 a z)⟩
        refine ⟨H0, O0, ρ1, S2, ?_⟩
        have Gc' := GotS.later k2 Gc
        revert Gc'
        dsimp only
        cases g ρ1 with
        | next ρ' => exact fun Gc' σ' H' S' k' => ⟨ρ', S', (kc.trans k2).trans k', GotS.later k' Gc'⟩
        | cont ρ' => exact fun Gc' σ' H' S' k' => ⟨ρ', S', (kc.trans k2).trans k', GotS.later k' Gc'⟩
        | brk ρ' => exact fun G => G
        | ret p => exact fun G => G
        | exc c ρ' => exact fun G => G
        | stuck => exact fun G => G
    · have e : i = items.length := by omega
      subst e
      rw [List.drop_length] at Gc
      exact .inl ⟨ok.stop _ Hc _ kc (Nat.le_refl _), Gc σc Hc Sc (Kept.refl _ _)⟩
def whN (t : Rho → R Bool) (b : Rho → Out) : Nat → Rho → Out
  | 0, _ => .stuck
  | n + 1, ρ => match t ρ with
    | .stuck => .stuck
    | .exc c => .exc c ρ
    | .ok false => .next ρ
    | .ok true => match b ρ with
      | .next ρ' => whN t b n ρ'
      | .cont ρ' => whN t b n ρ'
      | .brk ρ' => .next ρ'
      | o => o
theorem whN_more {t : Rho → R Bool} {b : Rho → Out} : ∀ (n : Nat) (ρ : Rho), whN t b n ρ ≠ .stuck → whN t b (n + 1) ρ = whN t b n ρ
  | 0, ρ, h => absurd rfl h
  | n + 1, ρ, h => by
    unfold whN at h
    rw [whN]
    conv => rhs; rw [whN]
    revert h
    cases t ρ with
    | stuck => exact fun _ => rfl
    | exc c => exact fun _ => rfl
    | ok k =>
      cases k with
      | false => exact fun _ => rfl
      | true =>
        dsimp only
        cases b ρ with
        | next ρ' => exact fun h => whN_more n ρ' h
        | cont ρ' => exact fun h => whN_more n ρ' h
        | _ => exact fun _ => rfl
theorem whN_le {t : Rho → R Bool} {b : Rho → Out} {n m : Nat} {ρ : Rho} (h : whN t b n ρ ≠ .stuck) (hl : n ≤ m) : whN t b m ρ = whN t b n ρ := by
  induction m with
  | zero => rw [Nat.le_zero.mp hl]
  | succ m ih =>
    by_cases e : n = m + 1
    · rw [e]
    · have q := ih (by omega)
      rw [whN_more m ρ (by rw [q]; exact h), q]
open Classical in
noncomputable def sWh (t : Rho → R Bool) (b : Rho → Out) (ρ : Rho) : Out := if h : ∃ n, whN t b n ρ ≠ .stuck then whN t b h.choose ρ else .stuck
theorem sWh_of {t : Rho → R Bool} {b : Rho → Out} {n : Nat} {ρ : Rho} (h : whN t b n ρ ≠ .stuck) : sWh t b ρ = whN t b n ρ := by
  have hx : ∃ n, whN t b n ρ ≠ .stuck := ⟨n, h⟩
  unfold sWh
  rw [dif_pos hx]
  have hc := hx.choose_spec
  rcases Nat.le_total n hx.choose with l | l
  · exact whN_le h l
  · exact (whN_le hc l).symm
theorem sWh_ex {t : Rho → R Bool} {b : Rho → Out} {ρ : Rho} (h : sWh t b ρ ≠ .stuck) : ∃ n, whN t b n ρ = sWh t b ρ := by
  by_cases hx : ∃ n, whN t b n ρ ≠ .stuck
  · obtain ⟨n, hn⟩ := hx
    exact ⟨n, (sWh_of hn).symm⟩
  · unfold sWh at h
    rw [dif_neg hx] at h
    exact absurd rfl h
/-- one turn -/
theorem sWh_eq (t : Rho → R Bool) (b : Rho → Out) (ρ : Rho) : sWh t b ρ = (match t ρ with
    | .stuck => .stuck
    | .exc c => .exc c ρ
    | .ok false => .next ρ
    | .ok true => match b ρ with
      | .next ρ' => sWh t b ρ'
      | .cont ρ' => sWh t b ρ'
      | .brk ρ' => .next ρ'
      | o => o) := by
  have go : ∀ ρ', (∀ n, whN t b (n + 1) ρ = whN t b n ρ') → sWh t b ρ = sWh t b ρ' := fun ρ' q => by
    by_cases h : sWh t b ρ' = .stuck
    · rw [h]
      by_cases h2 : sWh t b ρ = .stuck
      · exact h2
      · obtain ⟨n, hn⟩ := sWh_ex h2
        have hn' : whN t b n ρ ≠ .stuck := by rw [hn]; exact h2
        have e : whN t b n ρ' ≠ .stuck := by rw [← q n, whN_more n ρ hn']; exact hn'
        rw [sWh_of e] at h
        exact absurd h e
    · obtain ⟨n, hn⟩ := sWh_ex h
      have e : whN t b (n + 1) ρ ≠ .stuck := by rw [q n, hn]; exact h
      rw [sWh_of e, q n, hn]
  have one : ∀ o, o ≠ .stuck → whN t b 1 ρ = o → sWh t b ρ = o := fun o ho e => by rw [← e]; exact sWh_of (by rw [e]; exact ho)
  have non : (∀ n, whN t b n ρ = .stuck) → sWh t b ρ = .stuck := fun q => by
    unfold sWh
    rw [dif_neg (fun ⟨n, hn⟩ => hn (q n))]
  cases ht : t ρ with
  | stuck => exact non fun n => by cases n with | zero => rfl | succ n => rw [whN, ht]
  | exc c => exact one _ (fun z => nomatch z) (by rw [whN, ht])
  | ok k =>
    cases k with
    | false => exact one _ (fun z => nomatch z) (by rw [whN, ht])
    | true =>
      dsimp only
      cases hb : b ρ with
      | next ρ' => exact go ρ' fun n => by rw [whN, ht]; dsimp only; rw [hb]
      | cont ρ' => exact go ρ' fun n => by rw [whN, ht]; dsimp only; rw [hb]
      | brk ρ' => exact one _ (fun z => nomatch z) (by rw [whN, ht]; dsimp only; rw [hb])
      | ret p => exact one _ (fun z => nomatch z) (by rw [whN, ht]; dsimp only; rw [hb])
      | exc c ρ' => exact one _ (fun z => nomatch z) (by rw [whN, ht]; dsimp only; rw [hb])
      | stuck => exact non fun n => by cases n with | zero => rfl | succ n => rw [whN, ht]; dsimp only; rw [hb]
theorem s_while {c : Expr} {body : List Stmt} {t : Rho → R Bool} (hp : PassesOwn (model X.prog X.w) X.A X.env X.xe) (hc : TJ X W c t) (hb : BJ X W nw body g) : SJ X W nw (.While c body [] pos) (sWh t g) := by
  refine ps_imp (ps_while hp hc hb) fun D σ H ⟨H0, O0, ρ, S, G⟩ => ?_
  have ns : sWh t g ρ ≠ .stuck := fun z => by rw [z] at G; exact G
  obtain ⟨n, hn⟩ := sWh_ex ns
  rw [← hn] at G
  refine ⟨fun m σc Hc => ∃ ρc, StR X.K H0 O0 Hc σc ρc ∧ GotS X.K X.mg W nw H0 O0 σc ρc Hc D (whN t g m ρc), ⟨n, ρ, S, G⟩, ?_⟩
  rintro m σc Hc ⟨ρc, Sc, Gc⟩
  cases m with
  | zero => exact Gc.elim
  | succ m =>
    refine ⟨H0, O0, ρc, Sc, ?_⟩
    unfold whN at Gc
    revert Gc
    cases t ρc with
    | stuck => exact False.elim
    | exc c => exact fun G => exc_of Sc G
    | ok k =>
      cases k with
      | false => exact fun G H1 s1 => iteF (G σc H1 (Sc.step s1) (Kept.same s1))
      | true =>
        dsimp only
        intro G H1 s1
        refine iteT ⟨fun σ' H' => ∃ ρ', StR X.K H0 O0 H' σ' ρ' ∧ GotS X.K X.mg W nw H0 O0 σ' ρ' H' D (whN t g m ρ'), fun σ' H' z => ⟨m, Nat.lt_succ_self m, z⟩, H0, O0, ρc, Sc.step s1, ?_⟩
        have G' := GotS.later (Kept.same s1) G
        revert G'
        cases g ρc with
        | next ρ' => exact fun Gc' σ' H' S' k' => ⟨ρ', S', GotS.later k' Gc'⟩
        | cont ρ' => exact fun Gc' σ' H' S' k' => ⟨ρ', S', GotS.later k' Gc'⟩
        | brk ρ' => exact fun G => G
        | ret p => exact fun G => G
        | exc c ρ' => exact fun G => G
        | stuck => exact fun G => G
theorem kept_write {O0 : Addr → Prop} {σ : St} {ρ : Rho} {H : Hp} {i : Nat} {a : Addr} {ps qs : List PV} {ws : List V} (h1 : ρ[i]? = some (.own ps)) (h2 : σ[i]? = some (some (.ref a))) : Kept (OO O0 σ ρ) H (OO O0 σ (ρ.set i (.own qs))) (upd H a (.lst ws)) := fun b o h n =>
  ⟨by rw [upd_ne (fun z => n (by rw [z]; exact .inr ⟨i, ps, h1, h2⟩))]; exact h, fun z => n (by
    rcases z with z | ⟨j, rs, e1, e2⟩
    · exact .inl z
    · by_cases e : i = j
      · subst e; exact .inr ⟨i, ps, h1, e2⟩
      · rw [List.getElem?_set_ne e] at e1; exact .inr ⟨j, rs, e1, e2⟩)⟩
/-- by the list of slot i and a value -/
def sMut (i : Nat) (g : List PV → PV → R (List PV)) (f : Rho → R PV) : Rho → Out := fun ρ => match ρ[i]? with
  | some (.own ps) => sE f (fun p ρ => match g ps p with
    | .ok qs => .next (ρ.set i (.own qs))
    | _ => .stuck) ρ
  | _ => .stuck
def appP (ps : List PV) (p : PV) : R (List PV) := if ps.length < sizeLine then .ok (ps ++ [p]) else .stuck
def extP (ps : List PV) : PV → R (List PV)
  | .lst qs => if ps.length + qs.length ≤ sizeLine then .ok (ps ++ qs) else .stuck
  | _ => .stuck
variable {o : Expr} {apos : Pos} {i : Nat}
theorem s_app (ho : PE X o (tVar i)) (he : EJ X W .s e f) (hs : swapsWith (.Call (.Attribute o "append" apos) [e] [] pos) none pos.line X.env = pure false := by rfl)
    (hbase : attributeBase o "append" X.env (eval o X.env) = eval o X.env := by rfl)
    (hfew : ((backTo pos (starEach [e] X.env)).all (fun x => !x.1) && (backToKw pos (keywordEach [] X.env)).all (fun x => x.1.isSome)
      && decide ([e].length + ([] : List Keyword).length + (if ([] : List Keyword).isEmpty then 0 else 1) < 30)) = true := by rfl)
    (hline : (apos.endLine == pos.line) = true := by rfl) (hs1 : starEach [e] X.env = (false, eval e X.env) :: starEach [] X.env := by rfl) (hplain : (backTo pos (starEach [] X.env)).any (·.1) = false := by rfl) :
    SJ X W nw (.Expr (.Call (.Attribute o "append" apos) [e] [] pos) pos) (sMut i appP f) := by
  refine ps_imp (ps_expr (pe_bm PySem.F.plainAttrs_list PySem.F.slot_list_append PySem.F.type_list_append mt_append ho (pa_cons he pa_nil hs1) hbase hfew hline hs1 hplain) hs) fun D σ H ⟨H0, O0, ρ, S, G⟩ => ?_
  unfold sMut at G
  split at G
  · rename_i ps hp
    obtain ⟨a, vs, e1, e2, e3, e4, e5⟩ := S.own i ps hp
    refine ⟨.ref a, e1, .inl ⟨rfl, vs, .inl (.inl e2)⟩, H0, O0, ρ, S, got_e S G fun p v H1 s1 r1 G => ?_⟩
    unfold appP at G
    split at G
    · rename_i qs hq
      split at hq
      · rename_i hz
        cases hq
        have r5 := (e5.same s1).append (.cons (show Rep X.K H1 (OO O0 σ ρ) v p from r1) .nil)
        exact ⟨a, vs, v, rfl, rfl, s1 _ _ e2, by rw [e5.length]; exact hz, G _ _ ((S.step s1).write hp e1 r5) ((Kept.same s1).trans (kept_write hp e1))⟩
      · cases hq
    · exact G.elim
  · exact G.elim
theorem s_ext (ho : PE X o (tVar i)) (he : EJ X W .t e f) (hs : swapsWith (.Call (.Attribute o "extend" apos) [e] [] pos) none pos.line X.env = pure false := by rfl)
    (hbase : attributeBase o "extend" X.env (eval o X.env) = eval o X.env := by rfl)
    (hfew : ((backTo pos (starEach [e] X.env)).all (fun x => !x.1) && (backToKw pos (keywordEach [] X.env)).all (fun x => x.1.isSome)
      && decide ([e].length + ([] : List Keyword).length + (if ([] : List Keyword).isEmpty then 0 else 1) < 30)) = true := by rfl)
    (hline : (apos.endLine == pos.line) = true := by rfl) (hs1 : starEach [e] X.env = (false, eval e X.env) :: starEach [] X.env := by rfl) (hplain : (backTo pos (starEach [] X.env)).any (·.1) = false := by rfl) :
    SJ X W nw (.Expr (.Call (.Attribute o "extend" apos) [e] [] pos) pos) (sMut i extP f) := by
  refine ps_imp (ps_expr (pe_bm PySem.F.plainAttrs_list PySem.F.slot_list_extend PySem.F.type_list_extend mt_extend ho (pa_cons he pa_nil hs1) hbase hfew hline hs1 hplain) hs) fun D σ H ⟨H0, O0, ρ, S, G⟩ => ?_
  unfold sMut at G
  split at G
  · rename_i ps hp
    obtain ⟨a, vs, e1, e2, e3, e4, e5⟩ := S.own i ps hp
    refine ⟨.ref a, e1, .inl ⟨rfl, vs, .inl (.inl e2)⟩, H0, O0, ρ, S, got_e S G fun p v H1 s1 r1 G => ?_⟩
    unfold extP at G
    split at G
    · rename_i qs hq
      split at hq
      · split at hq
        · rename_i hz
          cases hq
          obtain ⟨b, ws, rfl, h1, r2⟩ := rt_lst r1
          have r5 := (e5.same s1).append r2
          exact ⟨a, b, vs, ws, rfl, rfl, s1 _ _ e2, h1, by rw [e5.length, r2.length]; exact hz, G _ _ ((S.step s1).write hp e1 r5) ((Kept.same s1).trans (kept_write hp e1))⟩
        · cases hq
      · cases hq
    · exact G.elim
  · exact G.elim
/-- xs[j] = e -/
def setP (ps : List PV) (p : PV) : PV → R (List PV)
  | .int k => match ixN ps.length k with
    | some j => .ok (ps.set j p)
    | none => .stuck
  | _ => .stuck
def sSetI (i : Nat) (f fi : Rho → R PV) : Rho → Out := fun ρ => match ρ[i]? with
  | some (.own ps) => sE f (fun p => sE fi fun q ρ => match setP ps p q with
    | .ok qs => .next (ρ.set i (.own qs))
    | _ => .stuck) ρ
  | _ => .stuck
theorem s_setI {ix : Expr} {fi : Rho → R PV} {p2 : Pos} (ho : PE X o (tVar i)) (he : EJ X W .s e f) (hi : EJ X W .s ix fi)
    (ha : ∀ v, assign (.Subscript o ix p2) X.env v = (do
      let ov ← holding [v] (eval o X.env)
      let iv ← holding [v, ov] (eval ix X.env)
      standAt p2
      holding [v, ov, iv] (setItem ov iv v)
      release [v, ov, iv] []) := by intro _; rfl)
    (hs : swapsWithSole [.Subscript o ix p2] e pos.line X.env = pure false := by rfl) (hw : swappedStores [.Subscript o ix p2] e X.env = pure none := by rfl)
    (h1 : (assignEach [.Subscript o ix p2] X.env).map (·.2) = [assign (.Subscript o ix p2) X.env] := by rfl) : SJ X W nw (.Assign [.Subscript o ix p2] e pos) (sSetI i f fi) := by
  refine ps_imp (ps_asg he (pg_sub ho hi set_list ha) hs hw h1) fun D σ H ⟨H0, O0, ρ, S, G⟩ => ?_
  unfold sSetI at G
  split at G
  · rename_i ps hp
    refine ⟨H0, O0, ρ, S, got_e S G fun p v H1 s1 r1 G => ?_⟩
    have r1 : Rep X.K H1 (OO O0 σ ρ) v p := r1
    have S1 := S.step s1
    obtain ⟨a, vs, e1, e2, e3, e4, e5⟩ := S1.own i ps hp
    refine ⟨.ref a, e1, H0, O0, ρ, S1, got_e S1 (GotS.later (Kept.same s1) G) fun q w H2 s2 r2 G => ?_⟩
    unfold setP at G
    split at G
    · rename_i qs hq
      split at hq
      · split at hq
        · rename_i j hj
          cases hq
          cases (show Rep X.K H2 (OO O0 σ ρ) w (.int _) from r2)
          have r5 := (e5.same s2).set (r1.same s2) j
          exact ⟨a, vs, _, j, rfl, rfl, s2 _ _ e2, by rw [e5.length]; exact hj, G _ _ ((S1.step s2).write hp e1 r5) ((Kept.same s2).trans (kept_write hp e1))⟩
        · cases hq
      · cases hq
    · exact G.elim
  · exact G.elim
/-- what is known of a class of errors of the text's own -/
structure ExcT (K : PySem.W.Frag) (mg : Str → Option Value) (x : Str) (C : Addr) : Prop where
  g : mg x = some (.ref C)
  ex : PySem.W.excIn K C [.type "ValueError", .type "Exception", .type "BaseException", .type "object"] "ValueError.__new__" = true
  kp : PySem.W.keepIn K (.ref C) = true
  sb : PySem.W.subIn K (.ref C) (.type "BaseException") = some true
  ty : PySem.W.typeIn K (.ref C) = some (.type "type")
def sRaise (x : Str) : Rho → Out := .exc x
theorem s_raise {x m : Str} {C : Addr} {j : Nat} {p p2 p3 : Pos} (T : ExcT X.K X.mg x C) (hc : X.calm = true) (tk : L2N.Takes X W) (hg : Gl X x) (hdb : (x == ("__debug__" : Str)) = false := by decide) : SJ X W nw (.Raise (some (.Call (.Name x p) [.Constant (.str m) j p2] [] p3)) none pos) (sRaise x) := by
  refine ps_imp (L2N.ps_raise hc tk (L2N.pmk_own PySem.F.excBase_ValueError T.ex T.g T.kp (raises_own T.sb T.ty) hg hdb)) fun D σ H ⟨H0, O0, ρ, S, G⟩ => ?_
  exact G C σ H T.g S (Kept.refl _ _)
end
def runF (n : Nat) (g : Rho → Out) : List PV → R PV := fun ps => match g (ps.map Slot.val ++ List.replicate (n - ps.length) Slot.un) with
  | .ret p => .ok p
  | .next _ => .ok .non
  | .exc c _ => .exc c
  | _ => .stuck
theorem start_st {K : PySem.W.Frag} {H : Hp} {O : Addr → Prop} {vs : List V} {ps : List PV} {N : List Str} (al : ∀ a, O a → H a ≠ none) (r : Reps K H O vs ps) : StR K H O H (L2.start N vs) (ps.map Slot.val ++ List.replicate (N.length - ps.length) Slot.un) := by
  have hl := r.length
  have noown : ∀ (i : Nat) qs, (ps.map Slot.val ++ List.replicate (N.length - ps.length) Slot.un)[i]? ≠ some (.own qs) := fun i qs e => by
    have := List.mem_of_getElem? e
    rcases List.mem_append.mp this with z | z
    · obtain ⟨p, _, z⟩ := List.mem_map.mp z
      cases z
    · cases (List.mem_replicate.mp z).2
  have oo : ∀ a, OO O (L2.start N vs) (ps.map Slot.val ++ List.replicate (N.length - ps.length) Slot.un) a → O a := fun a z => by
    rcases z with z | ⟨i, qs, h1, _⟩
    · exact z
    · exact absurd h1 (noown i qs)
  refine ⟨by unfold L2.start; simp [hl], Same.refl H, al, fun i qs h => absurd h (noown i qs), fun i j a qs rs h => absurd h (noown i qs), fun i p h => ?_, (fun i a h => by
    have := List.mem_of_getElem? h
    rcases List.mem_append.mp this with z | z
    · obtain ⟨p, _, z⟩ := List.mem_map.mp z
      cases z
    · cases (List.mem_replicate.mp z).2), fun i a l h => by
    have := List.mem_of_getElem? h
    rcases List.mem_append.mp this with z | z
    · obtain ⟨p, _, z⟩ := List.mem_map.mp z
      cases z
    · cases (List.mem_replicate.mp z).2⟩
  by_cases hi : i < ps.length
  · rw [List.getElem?_append_left (by rw [List.length_map]; exact hi), List.getElem?_map] at h
    cases hq : ps[i]? with
    | none => rw [hq] at h; cases h
    | some q =>
      rw [hq] at h
      cases h
      obtain ⟨v, h1, h2⟩ := r.get hq
      refine ⟨v, ?_, h2.less oo⟩
      unfold L2.start
      rw [List.getElem?_append_left (by rw [List.length_map, hl]; exact hi), List.getElem?_map, h1]
      rfl
  · rw [List.getElem?_append_right (by rw [List.length_map]; omega)] at h
    have := List.mem_of_getElem? h
    cases (List.mem_replicate.mp this).2
section
variable {P : Program} {w : World} {K : PySem.W.Frag} {mg : Str → Option Value} {base : Heap}
theorem Fun_okN {x qual : Str} {st : Stmt} {f : Addr} {fd : FuncData} {N ps : List Str} {k : Nat} {sp : Sp} (F : Fun K x qual st f fd) (S : FnScope N ps (defScope st)) (len : ∀ vs H Q E, sp vs H Q E → vs.length = ps.length)
    (hbody : ∀ (cdv : Value) (A : Around) (outer : List PySem.Env) (s : Shared) (H : Hp) (vs : List V) (Q : VK) (E : XK), Room k (A.deeper (envOfC qual (defScope st) s.heap.objs.size f cdv)) → sp vs H Q E →
      ∃ t, PSs (cxOf (L2N.CX P w) P w K mg base N qual (defScope st) f cdv A outer s H E) (defBody st) t ∧ t { nx := fun _ H' => Q .non H', rt := Q } (L2.start N vs) H) : FnOk P w K mg base (L2N.CX P w) (k + 1) f fd ps sp := by
  obtain ⟨oc, od, kV, doc, pm, an, cdv, ct, osl, rfl, lk, hcd⟩ := F.ex
  exact fn_of lk hcd S len fun A outer s H vs Q E hr hsp => hbody cdv A outer s H vs Q E hr hsp
theorem fn_mk {x qual : Str} {st : Stmt} {f : Addr} {fd : FuncData} {N ps : List Str} {k n : Nat} {nw : Bool} {g : Rho → Out} (F : Fun K x qual st f fd) (S : FnScope N ps (defScope st)) (hn : n = ps.length) (hnw : nw = true → ∀ l, ∀ ρ, g l ≠ .next ρ)
    (hbody : ∀ (cdv : Value) (A : Around) (outer : List PySem.Env) (s : Shared) (H : Hp) (E : XK), Room k (A.deeper (envOfC qual (defScope st) s.heap.objs.size f cdv)) →
      BJ (cxOf (L2N.CX P w) P w K mg base N qual (defScope st) f cdv A outer s H E) (fun cls d _ H => E cls d H) nw (defBody st) g) :
    FnOk P w K mg base (L2N.CX P w) (k + 1) f fd ps (spF K mg n nw (runF N.length g)) := by
  refine Fun_okN F S (fun vs H Q E h => ?_) (fun cdv A outer s H vs Q E hr h => ?_)
  · obtain ⟨_, _, _, _, e, _⟩ := h
    rw [e, hn]
  · obtain ⟨qs, O, al, r, e, h⟩ := h
    refine ⟨_, hbody cdv A outer s H E hr, H, O, _, start_st al r, ?_⟩
    have h' : (match runF N.length g qs with
      | .ok p => ∀ v H', Same H H' → RepR K O nw H H' v p → Q v H'
      | .exc c => ∀ C H', Same H H' → mg c = some (.ref C) → E (.ref C) none H'
      | .stuck => False) := h
    unfold runF at h'
    revert h'
    cases hg : g (qs.map Slot.val ++ List.replicate (N.length - qs.length) Slot.un) with
    | ret p => exact fun h v H' s r => h v H' s r
    | next ρ' =>
      intro h σ' H' S' _
      cases nw with
      | false => exact h _ _ S'.same .non
      | true => exact absurd hg (hnw rfl _ _)
    | exc c ρ' => exact fun h C σ' H' e S' _ => h C H' S'.same e
    | brk ρ' => exact False.elim
    | cont ρ' => exact False.elim
    | stuck => exact False.elim
/-- from inside a def: what a body's statements need of its context -/
theorem tk_of {N : List Str} {qual : Str} {scope : Scope} {f : Addr} {cdv : Value} {A : Around} {outer : List PySem.Env} {s : Shared} {H : Hp} {E : XK} : L2N.Takes (cxOf (L2N.CX P w) P w K mg base N qual scope f cdv A outer s H E) (fun cls d _ H => E cls d H) := L2N.takes_of rfl rfl rfl rfl
theorem hp_of {N : List Str} {qual : Str} {scope : Scope} {f : Addr} {cdv : Value} {A : Around} {outer : List PySem.Env} {s : Shared} {H : Hp} {E : XK} : PassesOwn (model P w) (cxOf (L2N.CX P w) P w K mg base N qual scope f cdv A outer s H E).A (cxOf (L2N.CX P w) P w K mg base N qual scope f cdv A outer s H E).env (cxOf (L2N.CX P w) P w K mg base N qual scope f cdv A outer s H E).xe := passes_of rfl
end
structure DefT (K : PySem.W.Frag) (mg : Str → Option Value) (x : Str) (st : Stmt) (ps : List Str) (f : Addr) (fd : FuncData) : Prop where
  F : Fun K x x st f fd
  g : mg x = some (.ref f)
  b : L2.Binds K fd ps []
def DefE (K : PySem.W.Frag) (mg : Str → Option Value) (x : Str) (st : Stmt) (ps : List Str) : Prop := ∃ f fd, DefT K mg x st ps f fd
def Okd (P : Program) (w : World) (K : PySem.W.Frag) (mg : Str → Option Value) (base : Heap) (x : Str) (ps : List Str) (k n : Nat) (nw : Bool) (F : List PV → R PV) : Prop :=
  ∃ f fd, mg x = some (.ref f) ∧ PySem.W.keepIn K (.ref f) = true ∧ L2.Binds K fd ps [] ∧ FnOk P w K mg base (L2N.CX P w) k f fd ps (spF K mg n nw F)
section
variable {P : Program} {w : World} {K : PySem.W.Frag} {mg : Str → Option Value} {base : Heap}
theorem def_ok {x : Str} {st : Stmt} {N ps : List Str} {k n : Nat} {nw : Bool} {g : Rho → Out} (T : DefE K mg x st ps) (S : FnScope N ps (defScope st)) (hn : n = ps.length) (hnw : nw = true → ∀ l, ∀ ρ, g l ≠ .next ρ)
    (hbody : ∀ (f : Addr) (cdv : Value) (A : Around) (outer : List PySem.Env) (s : Shared) (H : Hp) (E : XK), Room k (A.deeper (envOfC x (defScope st) s.heap.objs.size f cdv)) →
      BJ (cxOf (L2N.CX P w) P w K mg base N x (defScope st) f cdv A outer s H E) (fun cls d _ H => E cls d H) nw (defBody st) g) :
    Okd P w K mg base x ps (k + 1) n nw (runF N.length g) := by
  obtain ⟨f, fd, T⟩ := T
  exact ⟨f, fd, T.g, T.F.kp, T.b, fn_mk T.F S hn hnw (hbody f)⟩
variable {X : Cx} {W : WX} {e : Expr} {es : List Expr} {pos p : Pos} {fA : Rho → R (List PV)}
theorem aCons_len {f : Rho → R PV} {g : Rho → R (List PV)} {n : Nat} (h : ∀ ρ ps, g ρ = .ok ps → ps.length = n) : ∀ ρ ps, aCons f g ρ = .ok ps → ps.length = n + 1 := by
  intro ρ ps e
  unfold aCons at e
  revert e
  cases f ρ with
  | ok a =>
    rw [R.bind_ok]
    cases hg : g ρ with
    | ok qs =>
      intro e
      cases e
      rw [List.length_cons, h ρ qs hg]
    | exc c => exact fun e => nomatch e
    | stuck => exact fun e => nomatch e
  | exc c => exact fun e => nomatch e
  | stuck => exact fun e => nomatch e
theorem aNil_len : ∀ ρ ps, aNil ρ = .ok ps → ps.length = 0 := by
  intro ρ ps e
  cases e
  rfl
/-- the parts' lengths, read off the syntax -/
inductive ALen : (Rho → R (List PV)) → Nat → Prop where
  | nil : ALen aNil 0
  | cons {f : Rho → R PV} {g : Rho → R (List PV)} {n : Nat} : ALen g n → ALen (aCons f g) (n + 1)
theorem ALen.ok {g : Rho → R (List PV)} {n : Nat} (h : ALen g n) : ∀ ρ ps, g ρ = .ok ps → ps.length = n := by
  induction h with
  | nil => exact aNil_len
  | cons _ ih => exact aCons_len ih
theorem e_callD {x : Str} {k j n : Nat} {nw : Bool} {F : List PV → R PV} {pn : List Str} (h : Okd X.prog X.w X.K X.mg X.base x pn j n nw F) (hr : Room k X.A) (hjk : j ≤ k) (tk : L2N.Takes X W) (hg : Gl X x) (ha : AJ X W .s (e :: es) fA) (hal : ALen fA n) (hlen : n = es.length + 1 := by rfl) (hdb : (x == ("__debug__" : Str)) = false := by decide)
    (he : starEach (e :: es) X.env = (false, eval e X.env) :: starEach es X.env := by rfl) (hpl : (backTo pos (starEach es X.env)).any (·.1) = false := by rfl) : EJ X W (mdR nw) (.Call (.Name x p) (e :: es) [] pos) (eD F fA) := by
  obtain ⟨f, fd, h1, h2, h3, h4⟩ := h
  have q := e_call (p := p) (pos := pos) (dvs := []) (dps := []) (ds := []) h4 (hr.mono hjk) hg h1 h2 h3 .nil (fun _ _ => .nil) tk ha (by rw [hlen]; rfl) (by rw [← hlen]; exact hal.ok) hdb he hpl
  have e' : eD (fun ps => F (ps ++ [])) fA = eD F fA := by
    funext ρ
    unfold eD
    congr
    funext ps
    rw [List.append_nil]
  rw [e'] at q
  exact q
end
/-- the law's own promise: of the script -/
def spLaw (K : PySem.W.Frag) : Sp := fun vs H Q _ => ∃ (a : Addr) (ns : List Int), vs = [.ref a] ∧ SqL K H a (ns.map V.int) ∧ Only H ∧ ns.length ≤ 63 ∧ (∀ z ∈ ns, Builtin.Int.intBits z ≤ 1048576) ∧ ∀ v H', v = .bl true → Q v H'
theorem bits_log {z : Int} (h : Builtin.Int.intBits z ≤ 1048576) : z.natAbs.log2 < 1048577 := by
  unfold Builtin.Int.intBits at h
  split at h
  · rename_i e
    have e : z.natAbs = 0 := by simpa using e
    rw [e, Nat.log2_zero]; omega
  · omega
/-- bits: each of the script's numbers has at most 2 ^ 20 of them -/
theorem law_impB {P : Program} {w : World} {K : PySem.W.Frag} {mg : Str → Option Value} {base : Heap} {k : Nat} {f : Addr} {fd : FuncData} {ps : List Str} {F : List PV → R PV} (hF : ∀ ns : List Int, ns.length ≤ 63 → (∀ z ∈ ns, z.natAbs.log2 < 1048577) → F [.frz (ns.map PV.int)] = .ok (.bl true))
    (h : FnOk P w K mg base (L2N.CX P w) k f fd ps (spF K mg 1 false F)) : FnOk P w K mg base (L2N.CX P w) k f fd ps (spLaw K) := by
  refine h.imp fun vs H Q E ⟨a, ns, e1, hs, ho, hl, hb, q⟩ => ?_
  subst e1
  refine ⟨[.frz (ns.map PV.int)], fun _ => False, fun _ z => z.elim, .cons (.frz ?_) .nil, rfl, ?_⟩
  · rcases hs with (hs | hs) | hs
    · rcases ho a with z | ⟨o, xs, z⟩
      · rw [z] at hs; cases hs
      · rw [z] at hs; cases hs
    · exact .inl ⟨hs, fun z => z⟩
    · exact .inr fun _ => .inr hs
  · rw [hF ns hl fun z hz => bits_log (hb z hz)]
    intro v H' s r
    cases r
    exact q _ _ rfl
theorem cx_none {P : Program} {w : World} {H : Hp} {s : Shared} {e : Value} {s' : Shared} (h : L2N.CX P w [] H s (fun _ _ _ => False) e s') : False := by
  obtain ⟨_, _, _, _, _, _, _, _, _, _, _, _, z⟩ := h
  exact z
end PL
set_option Elab.async false
set_option linter.all false
set_option maxRecDepth 100000
set_option autoImplicit false
namespace PL
open PySem PySem.Spec L2
open PyProof.Rows hiding St
section
variable {X : Cx} {W : WX} {e a b c : Expr} {pos p : Pos} {f g : Rho → R PV} {es : List Expr} {fA : Rho → R (List PV)}
/-- a constant of the text's top -/
def GlI (mg : Str → Option Value) (x : Str) (i : Int) : Prop := ∃ t, mg x = some (.int i t)
theorem e_glI {x : Str} {i : Int} (h : GlI X.mg x i) (hg : Gl X x) (hd : (x == ("__debug__" : Str)) = false := by decide) : EJ X W .s (.Name x pos) (eC (.int i)) := by
  obtain ⟨t, h⟩ := h
  exact e_const (pe_glob hg h (v := .int i) ⟨t, rfl⟩ hd) fun _ _ _ => .int i
end
def NN (g : Rho → Out) : Prop := ∀ l ρ, g l ≠ .next ρ
theorem nn_e {f : Rho → R PV} {k : PV → Rho → Out} (h : ∀ p l ρ, k p l ≠ .next ρ) : NN (sE f k) := by
  intro l ρ e
  unfold sE at e
  revert e
  cases f l with
  | ok p => exact h p l ρ
  | exc c => exact fun e => nomatch e
  | stuck => exact fun e => nomatch e
theorem nn_ret (f : Rho → R PV) : NN (sRet f) := nn_e fun _ _ _ e => nomatch e
theorem nn_retO (i : Nat) : NN (sRetO i) := by
  intro l ρ e
  unfold sRetO at e
  split at e <;> cases e
theorem nn_seqL {g h : Rho → Out} (a : NN g) : NN (bSeq g h) := by
  intro l ρ e
  unfold bSeq at e
  have n := a l
  revert e n
  cases g l with
  | next ρ1 => exact fun _ n => absurd rfl (n ρ1)
  | _ => exact fun e => nomatch e
theorem nn_seqR {g h : Rho → Out} (a : NN h) : NN (bSeq g h) := by
  intro l ρ e
  unfold bSeq at e
  revert e
  cases g l with
  | next ρ1 => exact fun e => a ρ1 ρ e
  | _ => exact fun e => nomatch e
section
variable {K : PySem.W.Frag} {h : Heap} {mg : Str → Option Value}
theorem defE_mk (X : K.In h) (G : h.Ns mainGlobals mg) {x : Str} {st : Stmt} {ps : List Str} {f : Addr} {od an : Option Addr} {sl : Array (Option Value)} {oc kV dc pm cd ct : Value}
    (a : PySem.W.nsIn K mainGlobals x = some (some (.ref f))) (l : K.lookup f = some ⟨oc, od, .func (PySem.W.fnOf x x (defArgs st) (defBody st) (defScope st) .none kV dc pm an cd ct), sl⟩) (c : PySem.W.codeIn K cd x = true) (k : PySem.W.keepIn K (.ref f) = true)
    (hb : ∀ (kV doc pm : Value) (an : Option Addr) (cdv ct : Value) (us : List Value), us.length = ps.length → bindArgs (PySem.W.fnOf x x (defArgs st) (defBody st) (defScope st) .none kV doc pm an cdv ct) ⟨us, []⟩ = pure (ps.zip us)) : DefE K mg x st ps :=
  ⟨f, _, fun_mk l c k, PySem.W.mg_of X G a, (fun_mk l c k).binds hb⟩
theorem glI_mk (X : K.In h) (G : h.Ns mainGlobals mg) {x : Str} {i : Int} {t : Tok} (a : PySem.W.nsIn K mainGlobals x = some (some (.int i t))) : GlI mg x i := ⟨t, PySem.W.mg_of X G a⟩
theorem excE_mk (X : K.In h) (G : h.Ns mainGlobals mg) {x : Str} {C : Addr} (a : PySem.W.nsIn K mainGlobals x = some (some (.ref C))) (ex : PySem.W.excIn K C [.type "ValueError", .type "Exception", .type "BaseException", .type "object"] "ValueError.__new__" = true)
    (kp : PySem.W.keepIn K (.ref C) = true) (sb : PySem.W.subIn K (.ref C) (.type "BaseException") = some true) (ty : PySem.W.typeIn K (.ref C) = some (.type "type")) : ∃ C, ExcT K mg x C := ⟨C, PySem.W.mg_of X G a, ex, kp, sb, ty⟩
end
end PL
set_option Elab.async false
set_option linter.all false
set_option maxRecDepth 100000
set_option autoImplicit false
namespace PL
open PySem PySem.Spec L2
open PyProof.Rows hiding St
def isX (i : Nat) (a : Addr) (b : Bool) : Rho → R PV := fun ρ => match ρ[i]? with
  | some (.ex a') => if a' = a then .ok (.bl b) else .stuck
  | _ => .stuck
/-- the call of such a def -/
def hotC (i : Nat) (a : Addr) (F : Addr → R PV) : Rho → R PV := fun ρ => match ρ[i]? with
  | some (.ex a') => if a' = a then (match F a with
    | .ok p => .ok p
    | _ => .stuck) else .stuck
  | _ => .stuck
/-- behind the suite -/
def behindX (i : Nat) : Out → Out
  | .next ρ => .next (ρ.set i .un)
  | .brk ρ => .brk (ρ.set i .un)
  | .cont ρ => .cont (ρ.set i .un)
  | .ret p => .ret p
  | _ => .stuck
theorem takesN {X : Cx} : L2N.Takes X (fun _ _ _ _ => False) := fun _ _ x => by
  obtain ⟨_, _, _, _, _, _, _, _, _, _, _, _, _, _, _, _, z⟩ := x
  exact z.elim
end PL
set_option Elab.async false
set_option linter.all false
set_option maxRecDepth 100000
set_option autoImplicit false
namespace PL
open PySem PySem.Spec L2
open PyProof.Rows hiding St
def DefED (K : PySem.W.Frag) (mg : Str → Option Value) (x : Str) (st : Stmt) (ps : List Str) : Prop :=
  ∃ f fd ds, mg x = some (.ref f) ∧ FunD K x x (defArgs st) (defBody st) (defScope st) [.int 1] [] f fd ∧ L2.Binds K fd ps [] ∧ Vals [V.int 1] ds ∧ L2.Binds K fd ps ds
section
variable {P : Program} {w : World} {K : PySem.W.Frag} {mg : Str → Option Value} {base : Heap}
theorem defED_mk {h : Heap} (X : K.In h) (G : h.Ns mainGlobals mg) {x p q : Str} {st : Stmt} {f T : Addr} {od an td : Option Addr} {sl sl2 : Array (Option Value)} {oc kV dc pm cd ct tc : Value} {m : Nat} {t : Tok}
    (a : PySem.W.nsIn K mainGlobals x = some (some (.ref f))) (l : K.lookup f = some ⟨oc, od, .func (PySem.W.fnOf x x (defArgs st) (defBody st) (defScope st) (.ref T) kV dc pm an cd ct), sl⟩) (c : PySem.W.codeIn K cd x = true) (k : PySem.W.keepIn K (.ref f) = true)
    (lt : K.lookup T = some ⟨tc, td, .seq #[.int 1 t] m, sl2⟩)
    (h2 : ∀ (T : Addr) (kV doc pm : Value) (an : Option Addr) (cdv ct : Value) (us its : List Value), us.length = 2 → its.length = 1 → ∃ k, bindArgs (PySem.W.fnOf x x (defArgs st) (defBody st) (defScope st) (.ref T) kV doc pm an cdv ct) ⟨us, []⟩ = seqItems? (.ref T) >>= k ∧ k (some its.toArray) = pure ([p, q].zip (us ++ its.drop 1)))
    (h1 : ∀ (T : Addr) (kV doc pm : Value) (an : Option Addr) (cdv ct : Value) (us its : List Value), us.length = 1 → its.length = 1 → ∃ k, bindArgs (PySem.W.fnOf x x (defArgs st) (defBody st) (defScope st) (.ref T) kV doc pm an cdv ct) ⟨us, []⟩ = seqItems? (.ref T) >>= k ∧ k (some its.toArray) = pure ([p, q].zip (us ++ its.drop 0))) : DefED K mg x st [p, q] := by
  have F : FunD K x x (defArgs st) (defBody st) (defScope st) [.int 1] [] f (PySem.W.fnOf x x (defArgs st) (defBody st) (defScope st) (.ref T) kV dc pm an cd ct) :=
    ⟨⟨oc, od, _, kV, dc, pm, an, cd, ct, sl, rfl, l, c, .inr ⟨(fun z => nomatch z), T, _, [.int 1 t], m, rfl, lt, rfl, .cons ⟨t, rfl⟩ .nil⟩, .inl rfl⟩, k⟩
  obtain ⟨ds, v1, b1⟩ := F.binds1 1 0 (fun z => nomatch z) rfl h1
  obtain ⟨ds0, v0, b0⟩ := F.binds1 2 1 (fun z => nomatch z) rfl h2
  cases (show Vals [] ds0 from v0)
  exact ⟨f, _, ds, PySem.W.mg_of X G a, F, b0, v1, b1⟩
/-- called with the default -/
def OkD1 (P : Program) (w : World) (K : PySem.W.Frag) (mg : Str → Option Value) (base : Heap) (x : Str) (ps : List Str) (k n : Nat) (nw : Bool) (F : List PV → R PV) : Prop :=
  ∃ f fd ds, mg x = some (.ref f) ∧ PySem.W.keepIn K (.ref f) = true ∧ Vals [V.int 1] ds ∧ L2.Binds K fd ps ds ∧ FnOk P w K mg base (L2N.CX P w) k f fd ps (spF K mg n nw F)
theorem fn_mkD {x qual : Str} {st : Stmt} {f : Addr} {fd : FuncData} {dvs : List V} {N ps : List Str} {k n : Nat} {nw : Bool} {g : Rho → Out} (F : FunD K x qual (defArgs st) (defBody st) (defScope st) dvs [] f fd) (S : FnScope N ps (defScope st)) (hn : n = ps.length) (hnw : nw = true → ∀ l, ∀ ρ, g l ≠ .next ρ)
    (hbody : ∀ (cdv : Value) (A : Around) (outer : List PySem.Env) (s : Shared) (H : Hp) (E : XK), Room k (A.deeper (envOfC qual (defScope st) s.heap.objs.size f cdv)) →
      BJ (cxOf (L2N.CX P w) P w K mg base N qual (defScope st) f cdv A outer s H E) (fun cls d _ H => E cls d H) nw (defBody st) g) :
    FnOk P w K mg base (L2N.CX P w) (k + 1) f fd ps (spF K mg n nw (runF N.length g)) := by
  refine F.ok S (fun vs H Q E h => ?_) (fun cdv A outer s H vs Q E hr h => ?_)
  · obtain ⟨_, _, _, _, e, _⟩ := h
    rw [e, hn]
  · obtain ⟨qs, O, al, r, e, h⟩ := h
    refine ⟨_, hbody cdv A outer s H E hr, H, O, _, start_st al r, ?_⟩
    have h' : (match runF N.length g qs with
      | .ok p => ∀ v H', Same H H' → RepR K O nw H H' v p → Q v H'
      | .exc c => ∀ C H', Same H H' → mg c = some (.ref C) → E (.ref C) none H'
      | .stuck => False) := h
    unfold runF at h'
    revert h'
    cases hg : g (qs.map Slot.val ++ List.replicate (N.length - qs.length) Slot.un) with
    | ret p => exact fun h v H' s r => h v H' s r
    | next ρ' =>
      intro h σ' H' S' _
      cases nw with
      | false => exact h _ _ S'.same .non
      | true => exact absurd hg (hnw rfl _ _)
    | exc c ρ' => exact fun h C σ' H' e S' _ => h C H' S'.same e
    | brk ρ' => exact False.elim
    | cont ρ' => exact False.elim
    | stuck => exact False.elim
theorem def_okD {x : Str} {st : Stmt} {N ps : List Str} {k n : Nat} {nw : Bool} {g : Rho → Out} (T : DefED K mg x st ps) (S : FnScope N ps (defScope st)) (hn : n = ps.length) (hnw : nw = true → ∀ l, ∀ ρ, g l ≠ .next ρ)
    (hbody : ∀ (f : Addr) (cdv : Value) (A : Around) (outer : List PySem.Env) (s : Shared) (H : Hp) (E : XK), Room k (A.deeper (envOfC x (defScope st) s.heap.objs.size f cdv)) →
      BJ (cxOf (L2N.CX P w) P w K mg base N x (defScope st) f cdv A outer s H E) (fun cls d _ H => E cls d H) nw (defBody st) g) :
    Okd P w K mg base x ps (k + 1) n nw (runF N.length g) ∧ OkD1 P w K mg base x ps (k + 1) n nw (runF N.length g) := by
  obtain ⟨f, fd, ds, hm, F, b0, v1, b1⟩ := T
  have q := fn_mkD F S hn hnw (hbody f)
  exact ⟨⟨f, fd, hm, F.kp, b0, q⟩, f, fd, ds, hm, F.kp, v1, b1, q⟩
end
end PL
set_option Elab.async false
set_option linter.all false
set_option maxRecDepth 100000
set_option autoImplicit false
namespace PL
open PySem PySem.Spec L2
open PyProof.Rows hiding St
end PL
set_option Elab.async false
set_option linter.all false
set_option maxRecDepth 100000
set_option autoImplicit false
namespace PL
open PySem PySem.Spec L2
open PyProof.Rows hiding St
end PL
set_option Elab.async false
set_option linter.all false
set_option maxRecDepth 100000
set_option autoImplicit false
namespace PL
open PySem PySem.Spec L2
open PyProof.Rows hiding St
/-- an equation that is not taken for a computation -/
theorem nr {α : Sort _} {a b : α} (h : a = b) : a = b := h
section
variable {p q x y : PV} {ρ : Rho} {f g h : Rho → R PV} {i j : Nat} {a b c : Int} {k l : Bool} {ps qs : List PV} {s t : Slot}
@[simp] theorem eC_eq : eC p ρ = .ok p := nr rfl
@[simp] theorem eV0 : eV 0 (.val p :: ρ) = .ok p := nr rfl
@[simp] theorem eVs : eV (i + 1) (s :: ρ) = eV i ρ := by simp [eV]
@[simp] theorem eVo0 : eVo 0 (.val p :: ρ) = .ok p := nr rfl
@[simp] theorem eVo0' : eVo 0 (.own ps :: ρ) = .ok (.lst ps) := nr rfl
@[simp] theorem eVos : eVo (i + 1) (s :: ρ) = eVo i ρ := by simp [eVo]
@[simp] theorem bind1 {α β : Type} (a : α) (k : α → R β) : (R.ok a).bind k = k a := nr rfl
@[simp] theorem bind2 {α β : Type} (c : Str) (k : α → R β) : (R.exc c : R α).bind k = .exc c := nr rfl
@[simp] theorem bind3 {α β : Type} (k : α → R β) : (R.stuck : R α).bind k = .stuck := nr rfl
@[simp] theorem e2_eq {w : PV → PV → R PV} : e2 w f g ρ = (f ρ).bind fun x => (g ρ).bind fun y => w x y := nr rfl
@[simp] theorem e1_eq {w : PV → R PV} : e1 w f ρ = (f ρ).bind w := nr rfl
@[simp] theorem eD_eq {w : List PV → R PV} {fA : Rho → R (List PV)} : eD w fA ρ = (fA ρ).bind w := nr rfl
@[simp] theorem aNil_eq : aNil ρ = .ok [] := nr rfl
@[simp] theorem aCons_eq {fA : Rho → R (List PV)} : aCons f fA ρ = (f ρ).bind fun p => (fA ρ).bind fun ps => .ok (p :: ps) := nr rfl
@[simp] theorem tB1_eq : tB1 f ρ = (f ρ).bind asB := nr rfl
@[simp] theorem asB_eq : asB (.bl k) = .ok k := nr rfl
@[simp] theorem asI_eq : asI (.int a) = .ok a := nr rfl
@[simp] theorem tNt_eq {u : Rho → R Bool} : tNt u ρ = (u ρ).bind fun b => .ok (!b) := nr rfl
@[simp] theorem tAn_eq {u v : Rho → R Bool} : tAn u v ρ = (u ρ).bind fun b => if b = true then v ρ else .ok false := nr rfl
@[simp] theorem tOr_eq {u v : Rho → R Bool} : tOr' u v ρ = (u ρ).bind fun b => if b = true then .ok true else v ρ := nr rfl
@[simp] theorem eAn_eq : eAn f g ρ = (f ρ).bind fun p => (asB p).bind fun b => if b = true then g ρ else .ok (.bl false) := nr rfl
@[simp] theorem eOr_eq : eOr f g ρ = (f ρ).bind fun p => (asB p).bind fun b => if b = true then .ok (.bl true) else g ρ := nr rfl
@[simp] theorem notP_eq : notP (.bl k) = .ok (.bl (!k)) := nr rfl
@[simp] theorem negP_eq : negP (.int a) = .ok (.int (-a)) := nr rfl
@[simp] theorem eIf_eq {u : Rho → R Bool} : eIf u f g ρ = (u ρ).bind fun b => if b = true then f ρ else g ρ := nr rfl
@[simp] theorem eChain_eq {w1 w2 : PV → PV → R PV} : eChain w1 w2 f g h ρ = (f ρ).bind fun x => (g ρ).bind fun y => (w1 x y).bind fun z => (asB z).bind fun k => if k = true then (h ρ).bind fun w => w2 y w else .ok (.bl false) := nr rfl
@[simp] theorem addP_ii : addP (.int a) (.int b) = .ok (.int (a + b)) := nr rfl
@[simp] theorem iadd_ii : intP (fun _ _ => true) (fun a b => PV.int (a + b)) (.int a) (.int b) = .ok (.int (a + b)) := nr rfl
@[simp] theorem subP_ii : subP (.int a) (.int b) = .ok (.int (a - b)) := nr rfl
@[simp] theorem ltP_ii : ltP (.int a) (.int b) = .ok (.bl (decide (a < b))) := nr rfl
@[simp] theorem leP_ii : leP (.int a) (.int b) = .ok (.bl (decide (a ≤ b))) := nr rfl
@[simp] theorem gtP_ii : gtP (.int a) (.int b) = .ok (.bl (decide (b < a))) := nr rfl
@[simp] theorem geP_ii : geP (.int a) (.int b) = .ok (.bl (decide (b ≤ a))) := nr rfl
theorem mulP_ii (h : okMul a b = true) : mulP (.int a) (.int b) = .ok (.int (a * b)) := by
  show (if okMul a b = true then _ else _) = _
  rw [if_pos h]
theorem modP_ii (h : b ≠ 0) : modP (.int a) (.int b) = .ok (.int (a.fmod b)) := by
  show (if decide (b ≠ 0) = true then _ else _) = _
  rw [if_pos (decide_eq_true h)]
theorem modP_pos (h : 0 < b) : modP (.int a) (.int b) = .ok (.int (a % b)) := by
  rw [modP_ii (by omega), Int.fmod_eq_emod_of_nonneg a (by omega)]
theorem log2_lt {n m : Nat} (h : n < 2 ^ m) (hm : 0 < m) : n.log2 < m := by
  by_cases h0 : n = 0
  · subst h0; simpa using hm
  · exact (Nat.log2_lt h0).mpr h
theorem fdivP_ii (h : b ≠ 0) (h2 : b.natAbs < 2 ^ 9000) : fdivP (.int a) (.int b) = .ok (.int (a.fdiv b)) := by
  show (if okDiv a b = true then _ else _) = _
  have h3 : b.natAbs.log2 < 9000 := log2_lt h2 (by omega)
  rw [if_pos]
  show (decide (b ≠ 0) && decide (b.natAbs.log2 < 9000)) = true
  rw [decide_eq_true h, decide_eq_true h3] <;> rfl
theorem fdivP_pos (h : 0 < b) (h2 : b < 2 ^ 9000) : fdivP (.int a) (.int b) = .ok (.int (a / b)) := by
  rw [fdivP_ii (by omega) (by omega), Int.fdiv_eq_ediv_of_nonneg a (by omega)]
theorem divmodP_pos (h : 0 < b) (h2 : b < 2 ^ 9000) : divmodP [.int a, .int b] = .ok (.tup [.int (a / b), .int (a % b)]) := by
  unfold divmodP
  dsimp only
  have h3 : b.natAbs.log2 < 9000 := log2_lt (by omega) (by omega)
  rw [if_pos ⟨h, h3⟩]
theorem okMul_of {m n : Nat} (ha : a.natAbs < 2 ^ m) (hb : b.natAbs < 2 ^ n) (h : m + n ≤ 100000000) (hm : 0 < m) (hn : 0 < n) : okMul a b = true := by
  have h1 := log2_lt ha hm
  have h2 := log2_lt hb hn
  exact decide_eq_true (by omega)
/-- numbers written out: a product of factors below 2 ^ 10000 -/
theorem mulP_small (ha : -(2 ^ 20000) < a) (ha2 : a < 2 ^ 20000) (hb : -(2 ^ 20000) < b) (hb2 : b < 2 ^ 20000) : mulP (.int a) (.int b) = .ok (.int (a * b)) := mulP_ii (okMul_of (m := 20000) (n := 20000) (by omega) (by omega) (by omega) (by omega) (by omega))
theorem powP_ii (h0 : 0 ≤ b) (h1 : b ≤ 1000000) (h2 : a.natAbs < 2 ^ 64) : powP (.int a) (.int b) = .ok (.int (a ^ b.toNat)) := by
  show (if okPow a b = true then _ else _) = _
  rw [if_pos]
  show (decide (0 ≤ b) && decide (b ≤ 1000000) && decide (a.natAbs < 2 ^ 64)) = true
  rw [decide_eq_true h0, decide_eq_true h1, decide_eq_true h2] <;> rfl
/-- what may be compared -/
@[simp] theorem okD_int {n : Nat} : okD n (.int a) = true := by cases n <;> rfl
@[simp] theorem okD_bl {n : Nat} : okD n (.bl k) = true := by cases n <;> rfl
@[simp] theorem okD_non {n : Nat} : okD n .non = true := by cases n <;> rfl
@[simp] theorem okD_lst {n : Nat} : okD (n + 1) (.lst ps) = ps.all (okD n) := nr rfl
@[simp] theorem okD_tup {n : Nat} : okD (n + 1) (.tup ps) = ps.all (okD n) := nr rfl
@[simp] theorem okD_frz {n : Nat} : okD (n + 1) (.frz ps) = ps.all (okD n) := nr rfl
@[simp] theorem okD_str {n : Nat} {z : Str} : okD n (.str z) = PyData.strOk z := by cases n <;> rfl
@[simp] theorem eqV_ii : eqV' (.int a) (.int b) = (a == b) := by simp only [eqV']
@[simp] theorem eqV_bb : eqV' (.bl k) (.bl l) = (k == l) := by simp only [eqV']
@[simp] theorem eqV_ss {u v : Str} : eqV' (.str u) (.str v) = (u == v) := by simp only [eqV']
@[simp] theorem eqV_ll : eqV' (.lst ps) (.lst qs) = eqVs ps qs := by simp only [eqV']
@[simp] theorem eqV_tt : eqV' (.tup ps) (.tup qs) = eqVs ps qs := by simp only [eqV']
@[simp] theorem eqVs_nn : eqVs [] [] = true := by simp only [eqVs]
@[simp] theorem eqVs_cc : eqVs (p :: ps) (q :: qs) = (eqV' p q && eqVs ps qs) := by simp only [eqVs]
@[simp] theorem eqVs_cn : eqVs (p :: ps) [] = false := by simp only [eqVs]
@[simp] theorem eqVs_nc : eqVs [] (q :: qs) = false := by simp only [eqVs]
theorem eqP_ok (h : okD 30 p = true) (h2 : okD 30 q = true) : eqP p q = .ok (.bl (eqV' p q)) := by
  unfold eqP; rw [h, h2, Bool.and_self, if_pos rfl]
theorem neP_ok (h : okD 30 p = true) (h2 : okD 30 q = true) : neP p q = .ok (.bl (!eqV' p q)) := by
  unfold neP; rw [h, h2, Bool.and_self, if_pos rfl]
@[simp] theorem eqP_ii : eqP (.int a) (.int b) = .ok (.bl (a == b)) := by rw [eqP_ok okD_int okD_int, eqV_ii]
@[simp] theorem neP_ii : neP (.int a) (.int b) = .ok (.bl (!(a == b))) := by rw [neP_ok okD_int okD_int, eqV_ii]
@[simp] theorem eqP_bb : eqP (.bl k) (.bl l) = .ok (.bl (k == l)) := by rw [eqP_ok okD_bl okD_bl, eqV_bb]
@[simp] theorem neP_bb : neP (.bl k) (.bl l) = .ok (.bl (!(k == l))) := by rw [neP_ok okD_bl okD_bl, eqV_bb]
theorem eqVs_ints : ∀ ns ms : List Int, eqVs (ns.map PV.int) (ms.map PV.int) = (ns == ms)
  | [], [] => by simp
  | [], _ :: _ => by simp
  | _ :: _, [] => by simp
  | n :: ns, m :: ms => by simp only [List.map_cons, eqVs_cc, eqV_ii, eqVs_ints ns ms]; rfl
/-- kinds -/
@[simp] theorem isi_ii : isiP "int" (.int a) = .ok (.bl true) := by have e : kitB "int" "int" = some true := by decide +kernel
                                                                    simp only [isiP, kitP, tyN, e]
@[simp] theorem isi_ib : isiP "int" (.bl k) = .ok (.bl true) := by have e : kitB "bool" "int" = some true := by decide +kernel
                                                                   simp only [isiP, kitP, tyN, e]
@[simp] theorem isi_in : isiP "int" .non = .ok (.bl false) := by have e : kitB "NoneType" "int" = some false := by decide +kernel
                                                                 simp only [isiP, kitP, tyN, e]
@[simp] theorem isi_is {z : Str} : isiP "int" (.str z) = .ok (.bl false) := by have e : kitB "str" "int" = some false := by decide +kernel
                                                                               simp only [isiP, kitP, tyN, e]
@[simp] theorem isi_it : isiP "int" (.tup ps) = .ok (.bl false) := by have e : kitB "tuple" "int" = some false := by decide +kernel
                                                                      simp only [isiP, kitP, tyN, e]
@[simp] theorem isi_il : isiP "int" (.lst ps) = .ok (.bl false) := by have e : kitB "list" "int" = some false := by decide +kernel
                                                                      simp only [isiP, kitP, tyN, e]
@[simp] theorem isi_if : isiP "int" (.frz ps) = .ok (.bl false) := by have e : kitB "list" "int" = some false := by decide +kernel
                                                                      simp only [isiP, kitP, tyN, e]
@[simp] theorem isi_id : isiP "int" .dct = .ok (.bl false) := by have e : kitB "dict" "int" = some false := by decide +kernel
                                                                 simp only [isiP, kitP, tyN, e]
@[simp] theorem isi_bi : isiP "bool" (.int a) = .ok (.bl false) := by have e : kitB "int" "bool" = some false := by decide +kernel
                                                                      simp only [isiP, kitP, tyN, e]
@[simp] theorem isi_bb : isiP "bool" (.bl k) = .ok (.bl true) := by have e : kitB "bool" "bool" = some true := by decide +kernel
                                                                    simp only [isiP, kitP, tyN, e]
@[simp] theorem isi_idt {l : List ((Int × Int) × Int)} : isiP "int" (.dt l) = .ok (.bl false) := by
  have e : kitB "dict" "int" = some false := by decide +kernel
  simp only [isiP, kitP, tyN, e]
@[simp] theorem isi_iobj {C : Addr} {m : List Str} {fs : List PV} : isiP "int" (.obj C m fs) = .ok (.bl false) := by simp [isiP, kitP]
def isT : PV → Bool
  | .tup _ => true
  | _ => false
def isL : PV → Bool
  | .lst _ | .frz _ => true
  | _ => false
theorem isi_tuple : isiP "tuple" p = .ok (.bl (isT p)) := by
  have e1 : kitB "NoneType" "tuple" = some false := by decide +kernel
  have e2 : kitB "bool" "tuple" = some false := by decide +kernel
  have e3 : kitB "int" "tuple" = some false := by decide +kernel
  have e4 : kitB "str" "tuple" = some false := by decide +kernel
  have e5 : kitB "tuple" "tuple" = some true := by decide +kernel
  have e6 : kitB "list" "tuple" = some false := by decide +kernel
  have e7 : kitB "dict" "tuple" = some false := by decide +kernel
  cases p <;> simp [isiP, kitP, tyN, e1, e2, e3, e4, e5, e6, e7, isT]
def isB : PV → Bool
  | .bl _ => true
  | _ => false
theorem isi_bool : isiP "bool" p = .ok (.bl (isB p)) := by
  have e1 : kitB "NoneType" "bool" = some false := by decide +kernel
  have e2 : kitB "bool" "bool" = some true := by decide +kernel
  have e3 : kitB "int" "bool" = some false := by decide +kernel
  have e4 : kitB "str" "bool" = some false := by decide +kernel
  have e5 : kitB "tuple" "bool" = some false := by decide +kernel
  have e6 : kitB "list" "bool" = some false := by decide +kernel
  have e7 : kitB "dict" "bool" = some false := by decide +kernel
  cases p <;> simp [isiP, kitP, tyN, e1, e2, e3, e4, e5, e6, e7, isB]
/-- whole numbers -/
def isW : PV → Bool
  | .int _ => true
  | _ => false
/-- the body of is_whole, of the laws' own -/
@[simp] theorem isW_int (a : Int) : isW (.int a) = true := rfl
theorem whole_eq : (isiP "int" p).bind (fun x => (asB x).bind fun b => if b = true then (isiP "bool" p).bind notP else .ok (.bl false)) = .ok (.bl (isW p)) := by
  rw [isi_bool]
  cases p <;> simp [isW, isB]
/-- statements -/
@[simp] theorem then_next {k : Rho → Out} : (Out.next ρ).then k = k ρ := nr rfl
@[simp] theorem then_ret {k : Rho → Out} : (Out.ret p).then k = .ret p := nr rfl
@[simp] theorem then_exc {k : Rho → Out} {z : Str} : (Out.exc z ρ).then k = .exc z ρ := nr rfl
@[simp] theorem then_stuck {k : Rho → Out} : Out.stuck.then k = .stuck := nr rfl
@[simp] theorem then_brk {k : Rho → Out} : (Out.brk ρ).then k = .brk ρ := nr rfl
@[simp] theorem then_cont {k : Rho → Out} : (Out.cont ρ).then k = .cont ρ := nr rfl
@[simp] theorem bNil_eq : bNil ρ = .next ρ := nr rfl
@[simp] theorem bSeq_eq {u v : Rho → Out} : bSeq u v ρ = (u ρ).then v := nr rfl
/-- an expression's end within a statement -/
def R.st (r : R PV) (ρ : Rho) (k : PV → Out) : Out := match r with
  | .ok p => k p
  | .exc c => .exc c ρ
  | .stuck => .stuck
@[simp] theorem st_ok {k : PV → Out} : (R.ok p).st ρ k = k p := nr rfl
@[simp] theorem st_exc {k : PV → Out} {z : Str} : (R.exc z).st ρ k = .exc z ρ := nr rfl
@[simp] theorem st_stuck {k : PV → Out} : (R.stuck : R PV).st ρ k = .stuck := nr rfl
@[simp] theorem sE_eq {k : PV → Rho → Out} : sE f k ρ = (f ρ).st ρ fun p => k p ρ := nr rfl
@[simp] theorem sSet_eq : sSet i f ρ = (f ρ).st ρ fun p => .next (ρ.set i (.val p)) := nr rfl
@[simp] theorem sRet_eq : sRet f ρ = (f ρ).st ρ fun p => .ret p := nr rfl
@[simp] theorem sDrop_eq : sDrop f ρ = (f ρ).st ρ fun _ => .next ρ := nr rfl
@[simp] theorem sRaise_eq {z : Str} : sRaise z ρ = .exc z ρ := nr rfl
@[simp] theorem sPass_eq : sPass ρ = .next ρ := nr rfl
@[simp] theorem sTo_eq {w : PV → Rho → Option Rho} : sTo w f ρ = (f ρ).st ρ fun p => match w p ρ with | some ρ' => .next ρ' | none => .stuck := nr rfl
def R.stB (r : R Bool) (ρ : Rho) (k : Bool → Out) : Out := match r with
  | .ok p => k p
  | .exc c => .exc c ρ
  | .stuck => .stuck
@[simp] theorem stB_ok {k : Bool → Out} {b : Bool} : (R.ok b).stB ρ k = k b := nr rfl
@[simp] theorem stB_exc {k : Bool → Out} {z : Str} : (R.exc z).stB ρ k = .exc z ρ := nr rfl
@[simp] theorem stB_stuck {k : Bool → Out} : (R.stuck : R Bool).stB ρ k = .stuck := nr rfl
@[simp] theorem sIf_eq {u : Rho → R Bool} {v w : Rho → Out} : sIf u v w ρ = (u ρ).stB ρ fun b => if b = true then v ρ else w ρ := by
  unfold sIf R.stB
  cases u ρ with
  | ok b => cases b <;> simp
  | exc c => rfl
  | stuck => rfl
def Out.res (o : Out) : R PV := match o with
  | .ret p => .ok p
  | .next _ => .ok .non
  | .exc c _ => .exc c
  | _ => .stuck
@[simp] theorem res_ret : (Out.ret p).res = .ok p := nr rfl
@[simp] theorem res_next : (Out.next ρ).res = .ok .non := nr rfl
@[simp] theorem res_exc {z : Str} : (Out.exc z ρ).res = .exc z := nr rfl
theorem runF_eq {n : Nat} {u : Rho → Out} : runF n u ps = (u (ps.map Slot.val ++ List.replicate (n - ps.length) Slot.un)).res := rfl
@[simp] theorem gN_eq : gN i p ρ = some (ρ.set i (.val p)) := nr rfl
@[simp] theorem gT_eql {w : List PV → Rho → Option Rho} : gT w (.lst ps) ρ = w ps ρ := nr rfl
@[simp] theorem gT_eq {w : List PV → Rho → Option Rho} : gT w (.tup ps) ρ = w ps ρ := nr rfl
@[simp] theorem gsNil_eq : gsNil [] ρ = some ρ := nr rfl
@[simp] theorem gsCons_eq {u : PV → Rho → Option Rho} {w : List PV → Rho → Option Rho} : gsCons u w (p :: ps) ρ = (u p ρ).bind (w ps) := nr rfl
@[simp] theorem sAug0 {w : PV → PV → R PV} : sAug i w f ρ = (match ρ[i]? with
  | some (.val x) => ((f ρ).bind fun y => w x y).st ρ fun z => .next (ρ.set i (.val z))
  | _ => .stuck) := nr rfl
@[simp] theorem lenP_l : lenP [.lst ps] = .ok (.int ps.length) := nr rfl
@[simp] theorem lenP_t : lenP [.tup ps] = .ok (.int ps.length) := nr rfl
@[simp] theorem lenP_f : lenP [.frz ps] = .ok (.int ps.length) := nr rfl
theorem size_ok {n : Nat} (h : n ≤ 1000000) : n ≤ sizeLine := by rw [sizeLine_eq]; omega
theorem lstP_ok (h : ps.length ≤ 1000000) : lstP ps = .ok (.lst ps) := by unfold lstP; rw [if_pos (size_ok h)]
theorem tupP_ok (h : ps.length ≤ 1000000) : tupP ps = .ok (.tup ps) := by unfold tupP; rw [if_pos (size_ok h)]
@[simp] theorem lstP0 : lstP [] = .ok (.lst []) := lstP_ok (by simp)
@[simp] theorem tupP0 : tupP [] = .ok (.tup []) := tupP_ok (by simp)
@[simp] theorem tupP1 : tupP [p] = .ok (.tup [p]) := tupP_ok (by simp)
@[simp] theorem tupP2 : tupP [p, q] = .ok (.tup [p, q]) := tupP_ok (by simp)
@[simp] theorem tupP3 : tupP [p, q, x] = .ok (.tup [p, q, x]) := tupP_ok (by simp)
@[simp] theorem lstP1 : lstP [p] = .ok (.lst [p]) := lstP_ok (by simp)
@[simp] theorem lstP2 : lstP [p, q] = .ok (.lst [p, q]) := lstP_ok (by simp)
@[simp] theorem lstP3 : lstP [p, q, x] = .ok (.lst [p, q, x]) := lstP_ok (by simp)
@[simp] theorem lstP4 : lstP [p, q, x, y] = .ok (.lst [p, q, x, y]) := lstP_ok (by simp)
/-- places -/
theorem atI_at {α : Type} {l : List α} (h0 : 0 ≤ a) : atI l a = l[a.toNat]? := by
  unfold atI ixN
  rw [if_pos h0]
  by_cases h : a < l.length
  · rw [if_pos h]; rfl
  · rw [if_neg h, List.getElem?_eq_none (by omega)]; rfl
theorem ixP_lst (h0 : 0 ≤ a) (h : ps[a.toNat]? = some p) : ixP (.lst ps) (.int a) = .ok p := by unfold ixP; dsimp only; rw [atI_at h0, h]
theorem ixP_tup (h0 : 0 ≤ a) (h : ps[a.toNat]? = some p) : ixP (.tup ps) (.int a) = .ok p := by unfold ixP; dsimp only; rw [atI_at h0, h]
theorem ixP_frz (h0 : 0 ≤ a) (h : ps[a.toNat]? = some p) : ixP (.frz ps) (.int a) = .ok p := by unfold ixP; dsimp only; rw [atI_at h0, h]
@[simp] theorem ixP_t0 : ixP (.tup (p :: ps)) (.int 0) = .ok p := ixP_tup (by omega) rfl
@[simp] theorem ixP_t1 : ixP (.tup (p :: q :: ps)) (.int 1) = .ok q := ixP_tup (by omega) rfl
@[simp] theorem ixP_t2 : ixP (.tup (p :: q :: x :: ps)) (.int 2) = .ok x := ixP_tup (by omega) rfl
@[simp] theorem ixP_l0 : ixP (.lst (p :: ps)) (.int 0) = .ok p := ixP_lst (by omega) rfl
@[simp] theorem ixP_l1 : ixP (.lst (p :: q :: ps)) (.int 1) = .ok q := ixP_lst (by omega) rfl
@[simp] theorem ixP_l2 : ixP (.lst (p :: q :: x :: ps)) (.int 2) = .ok x := ixP_lst (by omega) rfl
end
/-- one turn -/
def turnL (tgt : PV → Rho → Option Rho) (body : Rho → Out) (p : PV) (ρ : Rho) : Out := match tgt p ρ with
  | none => .stuck
  | some ρ1 => body ρ1
theorem forL_inv {tgt : PV → Rho → Option Rho} {body : Rho → Out} (I : Nat → Rho → Prop) : ∀ (items : List PV) (k : Nat) (ρ : Rho), I k ρ →
    (∀ j p ρ, items[j]? = some p → I (k + j) ρ → ∃ ρ', (turnL tgt body p ρ = .next ρ' ∨ turnL tgt body p ρ = .cont ρ') ∧ I (k + j + 1) ρ') → ∃ ρ', forL tgt body items ρ = .next ρ' ∧ I (k + items.length) ρ' := by
  intro items
  induction items with
  | nil => intro k ρ h _; exact ⟨ρ, rfl, h⟩
  | cons p ps ih =>
    intro k ρ h hs
    obtain ⟨ρ1, h1, h2⟩ := hs 0 p ρ rfl h
    obtain ⟨ρ2, h3, h4⟩ := ih (k + 1) ρ1 h2 fun j q ρ' hj hI => by
      have := hs (j + 1) q ρ' (by simpa using hj) (by rw [show k + (j + 1) = k + 1 + j by omega]; exact hI)
      rw [show k + 1 + j + 1 = k + (j + 1) + 1 by omega]
      exact this
    refine ⟨ρ2, ?_, by rw [List.length_cons, show k + (ps.length + 1) = k + 1 + ps.length by omega]; exact h4⟩
    unfold turnL at h1
    unfold forL
    revert h1
    cases tgt p ρ with
    | none => exact fun h1 => by rcases h1 with h1 | h1 <;> cases h1
    | some ρ1' =>
      dsimp only
      intro h1
      rcases h1 with h1 | h1 <;> (rw [h1]; exact h3)
/-- over a range -/
theorem forL_rng {tgt : PV → Rho → Option Rho} {body : Rho → Out} (I : Nat → Rho → Prop) (lo : Int) (n : Nat) (ρ : Rho) (h0 : I 0 ρ)
    (hs : ∀ (j : Nat) ρ, j < n → I j ρ → ∃ ρ', (turnL tgt body (.int (lo + j)) ρ = .next ρ' ∨ turnL tgt body (.int (lo + j)) ρ = .cont ρ') ∧ I (j + 1) ρ') : ∃ ρ', forL tgt body (rngL lo n) ρ = .next ρ' ∧ I n ρ' := by
  obtain ⟨ρ', h1, h2⟩ := forL_inv I (rngL lo n) 0 ρ h0 fun j p ρ hj hI => by
    unfold rngL at hj
    rw [List.getElem?_map] at hj
    cases hn : (List.range n)[j]? with
    | none => rw [hn] at hj; cases hj
    | some m =>
      rw [hn] at hj
      obtain ⟨g1, g2⟩ := List.getElem?_eq_some_iff.mp hn
      rw [List.getElem_range] at g2
      subst g2
      cases hj
      rw [List.length_range] at g1
      rw [Nat.zero_add] at hI ⊢
      exact hs j ρ g1 hI
  rw [rngL_len, Nat.zero_add] at h2
  exact ⟨ρ', h1, h2⟩
def R.stL (r : R (List PV)) (ρ : Rho) (k : List PV → Out) : Out := match r with
  | .ok p => k p
  | .exc c => .exc c ρ
  | .stuck => .stuck
@[simp] theorem stL_ok {k : List PV → Out} {l : List PV} {ρ : Rho} : (R.ok l).stL ρ k = k l := nr rfl
@[simp] theorem sFor_eq {it : Rho → R (List PV)} {tgt : PV → Rho → Option Rho} {body : Rho → Out} {ρ : Rho} : sFor it tgt body ρ = (it ρ).stL ρ fun items => forL tgt body items ρ := nr rfl
@[simp] theorem iR_eq {g : List PV → R (List PV)} {f : Rho → R (List PV)} {ρ : Rho} : iR g f ρ = (f ρ).bind g := nr rfl
@[simp] theorem iS_eq {f : Rho → R PV} {ρ : Rho} : iS f ρ = (f ρ).bind asS := nr rfl
@[simp] theorem iRv_eq {f : Rho → R PV} {ρ : Rho} : iRv f ρ = (f ρ).bind fun p => (asS p).bind fun l => .ok l.reverse := nr rfl
@[simp] theorem asS_l {l : List PV} : asS (.lst l) = .ok l := nr rfl
@[simp] theorem asS_t {l : List PV} : asS (.tup l) = .ok l := nr rfl
@[simp] theorem asS_f {l : List PV} : asS (.frz l) = .ok l := nr rfl
theorem inR_of {a : Int} (h1 : -1000000000000 ≤ a) (h2 : a ≤ 1000000000000) : inR a = true := inR_iff.mpr ⟨by omega, by omega⟩
theorem rng1_sm {a : Int} (h1 : -1000000000000 ≤ a) (h2 : a ≤ 1000000000000) : rng1 [.int a] = .ok (rngL 0 a.toNat) := by
  unfold rng1; dsimp only; rw [if_pos (inR_of h1 h2)]
theorem rng2_sm {a b : Int} (h1 : -1000000000000 ≤ a) (h2 : a ≤ 1000000000000) (h3 : -1000000000000 ≤ b) (h4 : b ≤ 1000000000000) : rng2 [.int a, .int b] = .ok (rngL a (b - a).toNat) := nr rfl
theorem rng2_all {a b : Int} : rng2 [.int a, .int b] = .ok (rngL a (b - a).toNat) := nr rfl
theorem rng3_sm {a b : Int} (h1 : -1000000000000 ≤ a) (h2 : a ≤ 1000000000000) (h3 : -1000000000000 ≤ b) (h4 : b ≤ 1000000000000) : rng3 [.int a, .int b, .int (-1)] = .ok (rngDn a (a - b).toNat) := by
  unfold rng3; dsimp only; rw [inR_of h1 h2, inR_of h3 h4, Bool.and_self, decide_eq_true rfl, Bool.and_self, if_pos rfl]
theorem lcGo_map {tgt : PV → Rho → Option Rho} {elt : Rho → R PV} {ρ : Rho} (φ : PV → PV) : ∀ (items : List PV), (∀ p ∈ items, ∃ ρ', tgt p ρ = some ρ' ∧ elt ρ' = .ok (φ p)) → lcGo tgt cYes elt ρ items = .ok (items.map φ)
  | [], _ => rfl
  | p :: ps, h => by
    obtain ⟨ρ', h1, h2⟩ := h p List.mem_cons_self
    have ih := lcGo_map φ ps fun q hq => h q (List.mem_cons_of_mem _ hq)
    unfold lcGo
    rw [h1]
    dsimp only [cYes]
    rw [h2]
    dsimp only
    rw [ih]
    rfl
theorem eLc_ok {vs : List Nat} {it : Rho → R (List PV)} {tgt : PV → Rho → Option Rho} {test : Rho → R Bool} {elt : Rho → R PV} {ρ : Rho} {items qs : List PV} (h1 : vs.all (notOwn ρ) = true) (h2 : it ρ = .ok items) (h3 : items.length ≤ 1000000) (h4 : lcGo tgt test elt (wipeR ρ vs) items = .ok qs) : eLc vs it tgt test elt ρ = .ok (.lst qs) := by
  unfold eLc
  rw [if_pos h1, h2, bind1, if_pos (size_ok h3), h4]
end PL
namespace PL
open PySem PySem.Spec L2
open PyProof.Rows hiding St
section
variable {a b : Int} {p : PV} {ps : List PV}
theorem fdivP_sm (h : 0 < b) (h2 : b ≤ 1000000000000000000000000000000000000000000000000000000000000) : fdivP (.int a) (.int b) = .ok (.int (a / b)) := fdivP_ii (by omega) (by omega) |>.trans (by rw [Int.fdiv_eq_ediv_of_nonneg a (by omega)])
theorem mulP_sm (h : -1000000000000000000000000000000000000000000000000000000000000 ≤ a) (h2 : a ≤ 1000000000000000000000000000000000000000000000000000000000000) (h3 : -1000000000000000000000000000000000000000000000000000000000000 ≤ b) (h4 : b ≤ 1000000000000000000000000000000000000000000000000000000000000) : mulP (.int a) (.int b) = .ok (.int (a * b)) :=
  mulP_ii (okMul_of (m := 250) (n := 250) (by omega) (by omega) (by omega) (by omega) (by omega))
theorem powP_sm (h0 : 0 ≤ b) (h1 : b ≤ 1000000) (h2 : -1000000 ≤ a) (h3 : a ≤ 1000000) : powP (.int a) (.int b) = .ok (.int (a ^ b.toNat)) := powP_ii h0 h1 (by omega)
/-- the item at a place, 0 beyond -/
def nth (l : List Int) (a : Int) : Int := l.getD a.toNat 0
theorem nth_mem {l : List Int} (h0 : 0 ≤ a) (h : a < l.length) : nth l a ∈ l := by
  unfold nth
  rw [List.getD_eq_getElem?_getD, List.getElem?_eq_getElem (by omega)]
  exact List.getElem_mem _
theorem getD_map (ns : List Int) (k : Nat) (h : k < ns.length) : (ns.map PV.int)[k]? = some (.int (ns.getD k 0)) := by
  rw [List.getElem?_map, List.getElem?_eq_getElem h, List.getD_eq_getElem?_getD, List.getElem?_eq_getElem h]
  rfl
/-- an item of a written list of ints -/
theorem ixP_ints {ns : List Int} (h0 : 0 ≤ a) (h : a < ns.length) : ixP (.lst (ns.map PV.int)) (.int a) = .ok (.int (nth ns a)) := ixP_lst h0 (getD_map ns _ (by omega))
theorem ixP_intsF {ns : List Int} (h0 : 0 ≤ a) (h : a < ns.length) : ixP (.frz (ns.map PV.int)) (.int a) = .ok (.int (nth ns a)) := ixP_frz h0 (getD_map ns _ (by omega))
end
end PL
namespace PL
open PySem PySem.Spec L2
open PyProof.Rows hiding St
end PL
namespace PL
open PySem PySem.Spec L2
open PyProof.Rows hiding St
theorem set_self {ρ : Rho} {i : Nat} {s : Slot} (h : ρ[i]? = some s) : ρ.set i s = ρ := by
  refine List.ext_getElem? fun j => ?_
  by_cases e : i = j
  · subst e; rw [List.getElem?_set_self (List.getElem?_eq_some_iff.mp h).1, h]
  · rw [List.getElem?_set_ne e]
theorem eVo_of {ρ : Rho} {i : Nat} {p : PV} (h : ρ[i]? = some (.val p)) : eVo i ρ = .ok p := by unfold eVo; rw [h]
theorem eV_of {ρ : Rho} {i : Nat} {p : PV} (h : ρ[i]? = some (.val p)) : eV i ρ = .ok p := by unfold eV; rw [h]
theorem pow_bound {a : Int} {m : Nat} (h : a.natAbs < 2 ^ m) : ∀ n : Nat, (a ^ n).natAbs < 2 ^ (m * n + 1)
  | 0 => by simp
  | n + 1 => by
    have ih := pow_bound h n
    rw [Int.pow_succ, Int.natAbs_mul, Nat.mul_succ, show m * n + m + 1 = (m * n + 1) + m by omega, Nat.pow_add]
    exact Nat.mul_lt_mul'' ih h
theorem mul_bound {a b : Int} {m n : Nat} (h : a.natAbs < 2 ^ m) (g : b.natAbs < 2 ^ n) : (a * b).natAbs < 2 ^ (m + n) := by
  rw [Int.natAbs_mul, Nat.pow_add]
  exact Nat.mul_lt_mul'' h g
/-- the turn's name behind a loop over range(n) -/
def lastS (ρ : Rho) (a n : Nat) : Slot := if n = 0 then ρ.getD a .un else .val (.int ((n : Int) - 1))
theorem lastS_succ (ρ : Rho) (a n : Nat) : lastS ρ a (n + 1) = .val (.int (0 + n)) := by
  unfold lastS
  rw [if_neg (by omega)]
  congr 2
  omega
/-- for k in range(n): x = x * y -/
theorem mul_loop {i j a : Nat} {ρ : Rho} {x y : Int} (n : Nat) (hi : ρ[i]? = some (.val (.int x))) (hj : ρ[j]? = some (.val (.int y))) (ij : i ≠ j) (aj : a ≠ j) (ai : a ≠ i) (ha : a < ρ.length) (hx : x.natAbs < 2 ^ 200) (hy : y.natAbs < 2 ^ 60) (hn : n ≤ 10000) :
    forL (gN a) (bSeq (sSet i (e2 mulP (eVo i) (eVo j))) bNil) (rngL 0 n) ρ = .next ((ρ.set i (.val (.int (x * y ^ n)))).set a (lastS ρ a n)) := by
  have hil : i < ρ.length := (List.getElem?_eq_some_iff.mp hi).1
  obtain ⟨ρ', e1, rfl⟩ := forL_rng (tgt := gN a) (body := bSeq (sSet i (e2 mulP (eVo i) (eVo j))) bNil) (fun k ρ' => ρ' = (ρ.set i (.val (.int (x * y ^ k)))).set a (lastS ρ a k)) 0 n ρ (by
    unfold lastS
    rw [Int.pow_zero, Int.mul_one, set_self hi, if_pos rfl, List.getD_eq_getElem?_getD, List.getElem?_eq_getElem ha]
    exact (set_self (List.getElem?_eq_getElem ha)).symm) (fun k ρ' hk e => by
    subst e
    refine ⟨_, .inl ?_, rfl⟩
    have hm : mulP (.int (x * y ^ k)) (.int y) = .ok (.int (x * y ^ k * y)) := mulP_ii (okMul_of (mul_bound hx (pow_bound hy k)) hy (by omega) (by omega) (by omega))
    have g1 : (((ρ.set i (.val (.int (x * y ^ k)))).set a (lastS ρ a k)).set a (.val (.int (0 + k))))[i]? = some (.val (.int (x * y ^ k))) := by
      rw [List.getElem?_set_ne ai, List.getElem?_set_ne ai, List.getElem?_set_self hil]
    have g2 : (((ρ.set i (.val (.int (x * y ^ k)))).set a (lastS ρ a k)).set a (.val (.int (0 + k))))[j]? = some (.val (.int y)) := by
      rw [List.getElem?_set_ne aj, List.getElem?_set_ne aj, List.getElem?_set_ne ij, hj]
    simp only [turnL, gN_eq, bSeq_eq, sSet_eq, e2_eq, eVo_of g1, eVo_of g2, bind1, hm, st_ok, then_next, bNil_eq]
    rw [List.set_set, List.set_comm _ _ ai, List.set_set, Int.pow_succ, Int.mul_assoc, lastS_succ])
  exact e1
end PL
set_option Elab.async false
set_option linter.all false
set_option maxRecDepth 100000
set_option autoImplicit false
namespace PL
open PySem PySem.Spec L2
open PyProof.Rows hiding St
def repL : PV → PV → R PV
  | .lst a, .int k => if (decide (-1000000 ≤ k) && (decide (k ≤ 1000000) && decide (a.length * k.toNat ≤ sizeLine))) = true then .ok (.lst (List.replicate k.toNat a).flatten) else .stuck
  | _, _ => .stuck
theorem repL_exc (p q : PV) (c : Str) : repL p q ≠ .exc c := by
  unfold repL; split <;> (try split) <;> exact fun z => nomatch z
theorem s_repL (K : PySem.W.Frag) : OpS K rRep .t .t .f repL := by
  intro H0 O0 σ ρ H H2 x y p q Q S s rx ry G
  unfold repL at G
  split at G
  · rename_i a k
    split at G
    · rename_i hz
      rw [Bool.and_eq_true, Bool.and_eq_true, decide_eq_true_eq, decide_eq_true_eq, decide_eq_true_eq] at hz
      obtain ⟨c, vs, rfl, h1, r1⟩ := rt_lst rx
      rw [rt_int ry]
      have rr : ∀ n : Nat, Reps K H2 (OO O0 σ ρ) (List.replicate n vs).flatten (List.replicate n a).flatten := fun n => by
        induction n with
        | zero => exact .nil
        | succ n ih => rw [List.replicate_succ, List.replicate_succ, List.flatten_cons, List.flatten_cons]; exact r1.append ih
      exact ⟨c, _, vs, rfl, rfl, h1, by omega, by omega, by rw [r1.length]; exact hz.2.2, fun l hl => G _ _ (same_new hl) (new_lst (H0 := H0) s (rr _) hl)⟩
    · exact G.elim
  · exact G.elim
section
variable {X : Cx} {W : WX} {a b : Expr} {pos : Pos} {f g : Rho → R PV}
theorem e_repL (ha : EJ X W .t a f) (hb : EJ X W .t b g) : EJ X W .f (.BinOp a .Mult b pos) (e2 repL f g) := e_op op_rep repL_exc (s_repL _) ha hb
end
theorem repL_ok {a : List PV} {k : Int} (h0 : 0 ≤ k) (h1 : k ≤ 1000) (h : a.length ≤ 1000) : repL (.lst a) (.int k) = .ok (.lst (List.replicate k.toNat a).flatten) := by
  have hz : a.length * k.toNat ≤ 1000 * 1000 := Nat.mul_le_mul h (by omega)
  have hs : 1000 * 1000 ≤ sizeLine := by decide
  show (if _ then _ else _) = _
  rw [if_pos (by rw [Bool.and_eq_true, Bool.and_eq_true, decide_eq_true_eq, decide_eq_true_eq, decide_eq_true_eq]; exact ⟨by omega, by omega, by omega⟩)]
end PL
set_option Elab.async false
set_option linter.all false
set_option maxRecDepth 100000
set_option autoImplicit false
namespace PL
open PySem PySem.Spec L2
open PyProof.Rows hiding St
def asIs : List PV → Option (List Int)
  | [] => some []
  | .int b :: r => (asIs r).map (b :: ·)
  | _ => none
theorem asIs_map : ∀ {l : List PV} {bs : List Int}, asIs l = some bs → l = bs.map PV.int
  | [], _, h => by cases h; rfl
  | .int b :: r, bs, h => by
    unfold asIs at h
    obtain ⟨cs, h1, rfl⟩ := Option.map_eq_some_iff.mp h
    rw [asIs_map h1]; rfl
  | .non :: _, _, h | .bl _ :: _, _, h | .str _ :: _, _, h | .tup _ :: _, _, h | .lst _ :: _, _, h | .frz _ :: _, _, h | .dct :: _, _, h | .dt _ :: _, _, h | .obj _ _ _ :: _, _, h => by simp [asIs] at h
theorem asIs_of : ∀ bs : List Int, asIs (bs.map PV.int) = some bs
  | [] => rfl
  | b :: bs => by simp [asIs, asIs_of bs]
def leastI : List Int → Int
  | [] => 0
  | [n] => n
  | n :: m :: ns => min n (leastI (m :: ns))
theorem leastI_mem : ∀ {ns : List Int}, ns ≠ [] → leastI ns ∈ ns
  | [], h => absurd rfl h
  | [n], _ => List.mem_cons_self
  | n :: m :: ns, _ => by
    have ih := leastI_mem (ns := m :: ns) (fun z => nomatch z)
    show min n (leastI (m :: ns)) ∈ _
    rcases Int.le_total n (leastI (m :: ns)) with h | h
    · rw [Int.min_eq_left h]; exact List.mem_cons_self
    · rw [Int.min_eq_right h]; exact List.mem_cons_of_mem _ ih
theorem leastI_le : ∀ {ns : List Int}, ∀ y ∈ ns, leastI ns ≤ y
  | [], _, h => nomatch h
  | [n], y, h => by rw [List.mem_singleton.mp h]; exact Int.le_refl _
  | n :: m :: ns, y, h => by
    show min n (leastI (m :: ns)) ≤ y
    rcases List.mem_cons.mp h with rfl | h
    · exact Int.min_le_left ..
    · exact Int.le_trans (Int.min_le_right ..) (leastI_le y h)
theorem leastI_uniq {ns : List Int} {m : Int} (hm : m ∈ ns) (h : ∀ y ∈ ns, m ≤ y) : m = leastI ns :=
  Int.le_antisymm (h _ (leastI_mem fun z => by rw [z] at hm; cases hm)) (leastI_le m hm)
def minPL : List PV → R PV
  | [.lst l] => match asIs l with
    | some (n :: ns) => .ok (.int (leastI (n :: ns)))
    | _ => .stuck
  | _ => .stuck
theorem minPL_exc (ps : List PV) (c : Str) : minPL ps ≠ .exc c := by unfold minPL; split <;> (try split) <;> exact fun z => nomatch z
theorem minPL_ok {ns : List Int} (h : ns ≠ []) : minPL [.lst (ns.map PV.int)] = .ok (.int (leastI ns)) := by
  cases ns with
  | nil => exact absurd rfl h
  | cons n r => unfold minPL; dsimp only; rw [asIs_of]
theorem s_minL (K : PySem.W.Frag) : CallS K (rMin K) .t .s minPL := by
  intro H0 O0 σ ρ H H2 xs ps Q S s r G
  unfold minPL at G
  split at G
  · split at G
    · rename_i n ns hns
      obtain ⟨v, rfl, r1⟩ := pr1 r
      rw [asIs_map hns] at r1
      obtain ⟨a, vs, rfl, h1, r2⟩ := rt_lst r1
      rw [r2.ints] at h1
      exact ⟨a, n :: ns, rfl, .inl (.inl h1), by simp, fun m hm hl => by rw [leastI_uniq hm hl]; exact G _ _ (Same.refl _) (.int _)⟩
    · exact G.elim
  · exact G.elim
section
variable {X : Cx} {W : WX} {e : Expr} {pos p : Pos} {fA : Rho → R (List PV)}
theorem e_min1 (hc : X.calm = true) (mg : X.mg "min" = none) (hg : Gl X "min") (ha : AJ X W .t [e] fA) (he : starEach [e] X.env = (false, eval e X.env) :: starEach [] X.env := by rfl) : EJ X W .s (.Call (.Name "min" p) [e] [] pos) (eD minPL fA) := e_callB (cr_min hc) minPL_exc (s_minL _) hg mg (by decide +kernel) ha (he := he)
end
def sMut0 (i : Nat) (g : List PV → R (List PV)) : Rho → Out := fun ρ => match ρ[i]? with
  | some (.own ps) => (match g ps with
    | .ok qs => .next (ρ.set i (.own qs))
    | _ => .stuck)
  | _ => .stuck
def popP : List PV → R (List PV)
  | [] => .stuck
  | p :: ps => .ok (p :: ps).dropLast
def clearP : List PV → R (List PV) := fun _ => .ok []
def getN (ps : List PV) : PV → Option PV
  | .int k => if 0 ≤ k ∧ k < 1000000 then ps[k.toNat]? else none
  | _ => none
def augN (ps : List PV) : PV → PV → PV → R (List PV)
  | .int k, .int a, .int b => match ixN ps.length k with
    | some j => .ok (ps.set j (.int (a + b)))
    | none => .stuck
  | _, _, _ => .stuck
theorem augN_ok {ps qs : List PV} {k : Int} {x y : PV} (h : augN ps (.int k) x y = .ok qs) : ∃ (a b : Int) (j : Nat), x = .int a ∧ y = .int b ∧ ixN ps.length k = some j ∧ qs = ps.set j (.int (a + b)) := by
  cases x with
  | int a => cases y with
    | int b =>
      unfold augN at h; dsimp only at h
      cases e : ixN ps.length k with
      | none => rw [e] at h; cases h
      | some j => rw [e] at h; cases h; exact ⟨a, b, j, rfl, rfl, rfl, rfl⟩
    | _ => cases h
  | _ => cases h
def sAugI (i : Nat) (fi f : Rho → R PV) : Rho → Out := fun ρ => match ρ[i]? with
  | some (.own ps) => sE fi (fun q ρ => match getN ps q with
    | some x => sE f (fun y ρ => match augN ps q x y with
      | .ok qs => .next (ρ.set i (.own qs))
      | _ => .stuck) ρ
    | none => .stuck) ρ
  | _ => .stuck
def rGetN (K : PySem.W.Frag) : V → V → Hp → VK → Prop := fun o i H Q => ∃ p xs k v, o = .ref p ∧ i = .int k ∧ SqL K H p xs ∧ 0 ≤ k ∧ k < 1000000 ∧ xs[k.toNat]? = some v ∧ Q v H
theorem get_listN {X : Cx} : PGet X (rGetN X.K) := by
  rintro pins u σ H o i ov iv Q inv ro ri ⟨p, xs, k, v, rfl, rfl, hq, k0, k1, hv, q⟩
  cases ro
  obtain ⟨t, rfl⟩ := ri
  obtain ⟨its, r, pl, hz⟩ := inv.list hq
  obtain ⟨w, ew, rw'⟩ := r.get hv
  exact wpAny_getItem_list pl.isList k0 (by omega) (by simpa using ew) ⟨v, H, inv, rw', q⟩
section
variable {X : Cx} {W : WX} {nw : Bool} {o ix e : Expr} {apos pos p2 : Pos} {i : Nat} {f fi : Rho → R PV}
theorem s_pop (ho : PE X o (tVar i)) (hs : swapsWith (.Call (.Attribute o "pop" apos) [] [] pos) none pos.line X.env = pure false := by rfl)
    (hbase : attributeBase o "pop" X.env (eval o X.env) = eval o X.env := by rfl) (hline : (apos.endLine == pos.line) = true := by rfl) : SJ X W nw (.Expr (.Call (.Attribute o "pop" apos) [] [] pos) pos) (sMut0 i popP) := by
  refine ps_imp (ps_expr (pe_bm0 PySem.F.plainAttrs_list PySem.F.slot_list_pop PySem.F.type_list_pop mt_pop ho hbase hline) hs) fun D σ H ⟨H0, O0, ρ, S, G⟩ => ?_
  unfold sMut0 at G
  split at G
  · rename_i ps hp
    obtain ⟨a, vs, e1, e2, e3, e4, e5⟩ := S.own i ps hp
    unfold popP at G
    cases ps with
    | nil => exact G.elim
    | cons p ps =>
      have hl := e5.length
      have hv : vs ≠ [] := fun z => by rw [z] at hl; cases hl
      have hlast : vs[vs.length - 1]? = some (vs.getLast hv) := by rw [List.getLast_eq_getElem, List.getElem?_eq_getElem]
      exact ⟨.ref a, e1, .inl ⟨rfl, vs, .inl (.inl e2)⟩, a, vs, _, rfl, rfl, e2, hlast, G _ _ (S.write hp e1 e5.dropLast) (kept_write hp e1)⟩
  · exact G.elim
theorem s_augI (ho : PE X o (tVar i)) (hi : EJ X W .s ix fi) (he : EJ X W .s e f)
    (ha : ∀ ov iv new, augStore ix ov iv new = (do holding [new, ov, iv] (setItem ov iv new); release [new, ov, iv] []; pure .next) := by intros; rfl) : SJ X W nw (.AugAssign (.Subscript o ix p2) .Add e pos) (sAugI i fi f) := by
  refine ps_imp (ps_augS ho hi get_listN he ip_add set_list ha) fun D σ H ⟨H0, O0, ρ, S, G⟩ => ?_
  unfold sAugI at G
  split at G
  · rename_i ps hp
    obtain ⟨a0, vs0, e1, _⟩ := S.own i ps hp
    refine ⟨.ref a0, e1, H0, O0, ρ, S, got_e S G fun q v H1 s1 r1 G => ?_⟩
    have S1 := S.step s1
    obtain ⟨a, vs, e1', e2, e3, e4, e5⟩ := S1.own i ps hp
    rw [e1] at e1'
    cases e1'
    split at G
    · rename_i x hx
      unfold getN at hx
      split at hx
      · split at hx
        · rename_i k hk
          cases (show Rep X.K H1 (OO O0 σ ρ) v (.int _) from r1)
          obtain ⟨y, hy, ry⟩ := e5.get hx
          refine ⟨a0, vs, _, y, rfl, rfl, .inl (.inl e2), hk.1, hk.2, hy, H0, O0, ρ, S1, got_e S1 (GotS.later (Kept.same s1) G) fun z w H2 s2 r2 G => ?_⟩
          split at G
          · rename_i qs hq
            obtain ⟨m, n, j, rfl, rfl, hj, rfl⟩ := augN_ok hq
            cases ry
            cases (show Rep X.K H2 (OO O0 σ ρ) w (.int n) from r2)
            exact ⟨_, _, rfl, rfl, a0, vs, _, j, rfl, rfl, s2 _ _ e2, by rw [e5.length]; exact hj, G _ _ ((S1.step s2).write hp e1 ((e5.same s2).set (.int _) j)) ((Kept.same s2).trans (kept_write hp e1))⟩
          · exact G.elim
        · cases hx
      · cases hx
    · exact G.elim
  · exact G.elim
end
end PL
set_option Elab.async false
set_option linter.all false
set_option maxRecDepth 100000
set_option autoImplicit false
namespace PL
open PySem PySem.Spec L2
open PyProof.Rows hiding St
def isBP : PV → PV → R PV
  | .bl a, .bl b => .ok (.bl (decide (a = b)))
  | _, _ => .stuck
def notBP : PV → PV → R PV
  | .bl a, .bl b => .ok (.bl (!decide (a = b)))
  | _, _ => .stuck
@[simp] theorem isBP_bb (a b : Bool) : isBP (.bl a) (.bl b) = .ok (.bl (decide (a = b))) := rfl
@[simp] theorem notBP_bb (a b : Bool) : notBP (.bl a) (.bl b) = .ok (.bl (!decide (a = b))) := rfl
end PL
set_option Elab.async false
set_option linter.all false
set_option maxRecDepth 100000
set_option autoImplicit false
namespace PL
open PySem PySem.Spec L2
open PyProof.Rows hiding St
def kd : PV → Nat
  | .int _ => 0 | .bl _ => 1 | .str _ => 2 | .non => 3 | _ => 4
def kV : V → Nat
  | .int _ => 0 | .bl _ => 1 | .str _ => 2 | .non => 3 | _ => 4
def apart (ps qs : List PV) : Bool := !(ps.map kd == qs.map kd)
end PL
set_option Elab.async false
set_option linter.all false
set_option maxRecDepth 100000
set_option autoImplicit false
namespace PL
open PySem PySem.Spec L2
open PyProof.Rows hiding St
end PL
set_option Elab.async false
set_option linter.all false
set_option maxRecDepth 100000
set_option autoImplicit false
namespace PL
open PySem PySem.Spec L2
open PyProof.Rows hiding St
open PySem.W (EachIs AllAlike Sortable dataLe dataLt alike)
theorem okd_stuck {P : Program} {w : World} {K : PySem.W.Frag} {mg : Str → Option Value} {base : Heap} {x : Str} {st : Stmt} {ps : List Str} {k n : Nat} {nw : Bool} (T : DefE K mg x st ps) (hn : n = ps.length) : Okd P w K mg base x ps k n nw (fun _ => .stuck) := by
  obtain ⟨f, fd, T⟩ := T
  refine ⟨f, fd, T.g, T.F.kp, T.b, ⟨fun vs H Q E h => ?_, fun A outer s H args us vs Q E _ _ _ _ h => ?_⟩⟩
  · obtain ⟨_, _, _, _, e, _⟩ := h
    exact e.trans hn
  · obtain ⟨_, _, _, _, _, z⟩ := h
    exact z.elim
end PL
set_option Elab.async false
set_option linter.all false
set_option maxRecDepth 100000
set_option autoImplicit false
namespace PL
open PySem PySem.Spec L2
open PyProof.Rows hiding St
end PL
set_option Elab.async false
set_option linter.all false
set_option maxRecDepth 100000
set_option autoImplicit false
namespace PL
open PySem PySem.Spec L2
open PyProof.Rows hiding St
end PL
set_option Elab.async false
set_option linter.all false
set_option maxRecDepth 100000
set_option autoImplicit false
namespace PL
open PySem PySem.Spec L2
open PyProof.Rows hiding St
def KeptB (b : Nat) (σ : St) (H H' : Hp) : Prop := ∀ d o, H d = some o → σ[b]? ≠ some (some (.ref d)) → H' d = some o
theorem KeptB.same {b : Nat} {σ : St} {H H' : Hp} (s : Same H H') : KeptB b σ H H' := fun d o h _ => s d o h
theorem KeptB.trans {b : Nat} {σ : St} {H H1 H2 : Hp} (k : KeptB b σ H H1) (l : KeptB b σ H1 H2) : KeptB b σ H H2 := fun d o h n => l d o (k d o h n) n
theorem set_selfB {ρ : Rho} {b : Nat} {s : Slot} (h : ρ[b]? = some s) : ρ.set b s = ρ := by
  refine List.ext_getElem? fun i => ?_
  by_cases e : b = i
  · subst e
    rw [List.getElem?_set_self (List.getElem?_eq_some_iff.mp h).1, h]
  · rw [List.getElem?_set_ne e]
theorem set_has {ρ : Rho} {b : Nat} {s t : Slot} (h : ρ[b]? = some s) : (ρ.set b t)[b]? = some t := List.getElem?_set_self (List.getElem?_eq_some_iff.mp h).1
section
variable {K : PySem.W.Frag} {O0 : Addr → Prop} {σ : St} {ρ : Rho} {b : Nat} {c c' : List PV} {H0 H H' : Hp}
theorem oo_box (h : ρ[b]? = some (.own c)) {a : Addr} : OO O0 σ (ρ.set b (.own c')) a ↔ OO O0 σ ρ a := by
  constructor
  · rintro (z | ⟨j, rs, e1, e2⟩)
    · exact .inl z
    · by_cases e : b = j
      · subst e; exact .inr ⟨b, c, h, e2⟩
      · rw [List.getElem?_set_ne e] at e1; exact .inr ⟨j, rs, e1, e2⟩
  · rintro (z | ⟨j, rs, e1, e2⟩)
    · exact .inl z
    · by_cases e : b = j
      · subst e; exact .inr ⟨b, c', set_has h, e2⟩
      · exact .inr ⟨j, rs, by rw [List.getElem?_set_ne e]; exact e1, e2⟩
theorem KeptB.kept (h : ρ[b]? = some (.own c)) (k : KeptB b σ H H') : Kept (OO O0 σ ρ) H (OO O0 σ (ρ.set b (.own c'))) H' := fun a o ha n => ⟨k a o ha fun z => n (.inr ⟨b, c, h, z⟩), fun z => n ((oo_box h).mp z)⟩
end
def GotX (K : PySem.W.Frag) (O0 : Addr → Prop) (σ : St) (ρ : Rho) (b : Nat) (H0 H : Hp) (Q : VK) : R (PV × List PV) → Prop
  | .ok (p, c) => ∀ v H', StR K H0 O0 H' σ (ρ.set b (.own c)) → KeptB b σ H H' → Rep K H' (OO O0 σ ρ) v p → Q v H'
  | _ => False
def tX (K : PySem.W.Frag) (b : Nat) (f : Rho → R (PV × List PV)) : TE := fun σ H Q => ∃ H0 O0 ρ c, StR K H0 O0 H σ ρ ∧ ρ[b]? = some (.own c) ∧ GotX K O0 σ ρ b H0 H Q (f ρ)
abbrev XJ (X : Cx) (b : Nat) (e : Expr) (f : Rho → R (PV × List PV)) : Prop := PE X e (tX X.K b f)
def GotXT (K : PySem.W.Frag) (O0 : Addr → Prop) (σ : St) (ρ : Rho) (b : Nat) (H0 H : Hp) (Q : Bool → Hp → Prop) : R (Bool × List PV) → Prop
  | .ok (p, c) => ∀ H', StR K H0 O0 H' σ (ρ.set b (.own c)) → KeptB b σ H H' → Q p H'
  | _ => False
def tXT (K : PySem.W.Frag) (b : Nat) (f : Rho → R (Bool × List PV)) : TT := fun σ H Q => ∃ H0 O0 ρ c, StR K H0 O0 H σ ρ ∧ ρ[b]? = some (.own c) ∧ GotXT K O0 σ ρ b H0 H Q (f ρ)
abbrev XTJ (X : Cx) (b : Nat) (e : Expr) (f : Rho → R (Bool × List PV)) : Prop := PT X e (tXT X.K b f)
section
variable {X : Cx} {W : WX} {e a a' : Expr} {pos : Pos} {b : Nat} {f h : Rho → R (PV × List PV)}
def xL (b : Nat) (f : Rho → R PV) : Rho → R (PV × List PV) := fun ρ => match ρ[b]? with
  | some (.own c) => (match f ρ with
    | .ok p => .ok (p, c)
    | _ => .stuck)
  | _ => .stuck
theorem x_lift {f : Rho → R PV} (h : EJ X W .s e f) : XJ X b e (xL b f) := by
  refine pe_imp h fun σ H Q ⟨H0, O0, ρ, c, S, hb, G⟩ => ⟨H0, O0, ρ, S, ?_⟩
  unfold xL at G
  rw [hb] at G
  have G' : GotX X.K O0 σ ρ b H0 H Q (match f ρ with
    | .ok p => .ok (p, c)
    | _ => .stuck) := G
  revert G'
  cases f ρ with
  | stuck => exact False.elim
  | exc c => exact False.elim
  | ok p => exact fun G v H' s r => G v H' (by rw [set_selfB hb]; exact S.step s) (KeptB.same s) r
def x2 (b : Nat) (g : PV → PV → R PV) (f h : Rho → R (PV × List PV)) : Rho → R (PV × List PV) := fun ρ => (f ρ).bind fun x => (h (ρ.set b (.own x.2))).bind fun y => (g x.1 y.1).bind fun r => .ok (r, y.2)
theorem tX_op {K : PySem.W.Frag} {r : R2} {g : PV → PV → R PV} (ho : OpS K r .t .t .s g) : ∀ σ H Q, tX K b (x2 b g f h) σ H Q → tOp r (tX K b f) (tX K b h) σ H Q := by
  intro σ H Q ⟨H0, O0, ρ, c, S, hb, G⟩
  refine ⟨H0, O0, ρ, c, S, hb, ?_⟩
  revert G
  unfold x2
  cases f ρ with
  | stuck => exact False.elim
  | exc c => exact False.elim
  | ok x =>
    obtain ⟨p, c1⟩ := x
    rw [R.bind_ok]
    intro G x H1 S1 k1 r1
    refine ⟨H0, O0, ρ.set b (.own c1), c1, S1, set_has hb, ?_⟩
    revert G
    cases h (ρ.set b (.own c1)) with
    | stuck => exact False.elim
    | exc c => exact False.elim
    | ok y =>
      obtain ⟨q, d⟩ := y
      rw [R.bind_ok]
      intro G y H2 S2 k2 r2
      rw [List.set_set] at S2
      refine ho (H := H2) (H2 := H2) (p := p) (q := q) S2 (Same.refl H2) (Or.inl (show Rep K H2 (OO O0 σ (ρ.set b (.own d))) x p from ?_)) (Or.inl (show Rep K H2 (OO O0 σ (ρ.set b (.own d))) y q from ?_)) ?_
      · exact r1.mono fun a o ha n => ⟨k2 a o ha fun z => n (.inr ⟨b, c, hb, z⟩), fun z => n ((oo_box hb).mp z)⟩
      · exact r2.less fun a z => (oo_box hb).mpr ((oo_box hb).mp z)
      · revert G
        show GotX K O0 σ ρ b H0 H Q ((g p q).bind fun r => .ok (r, d)) → _
        cases g p q with
        | stuck => exact False.elim
        | exc c => exact False.elim
        | ok w => exact fun G v H' s r => G v H' (S2.step s) ((k1.trans k2).trans (KeptB.same s)) (r.less fun a z => (oo_box hb).mpr z)
theorem x_op {op : Operator} {r : R2} {g : PV → PV → R PV} (hr : OpR X (binaryOp op) r) (ho : OpS X.K r .t .t .s g) (ha : XJ X b a f) (hb : XJ X b a' h) : XJ X b (.BinOp a op a' pos) (x2 b g f h) := pe_imp (pe_op hr ha hb) (tX_op ho)
def xB (f : Rho → R (PV × List PV)) : Rho → R (Bool × List PV) := fun ρ => (f ρ).bind fun x => (asB x.1).bind fun k => .ok (k, x.2)
theorem x_cmpT {op : CmpOp} {r : R2} {g : PV → PV → R PV} (hr : OpR X (compareOp op) r) (ho : OpS X.K r .t .t .s g) (ha : XJ X b a f) (hb : XJ X b a' h) (hm : behindInMarks op a' = false) : XTJ X b (.Compare a [op] [a'] pos) (xB (x2 b g f h)) := by
  refine pt_imp (pt_cmpR hr ha hb hm) fun σ H Q ⟨H0, O0, ρ, c, S, hb, G⟩ => tX_op ho σ H _ ⟨H0, O0, ρ, c, S, hb, ?_⟩
  revert G
  unfold xB
  cases x2 b g f h ρ with
  | stuck => exact False.elim
  | exc c => exact False.elim
  | ok x =>
    obtain ⟨p, d⟩ := x
    cases p with
    | bl k => exact fun G v H' S' k' r => by cases r; exact ⟨k, rfl, G H' S' k'⟩
    | _ => exact False.elim
theorem x_eqT (hu : X.A.units + 64 < cLine) (ha : XJ X b a f) (hb : XJ X b a' h) : XTJ X b (.Compare a [.Eq] [a'] pos) (xB (x2 b eqP f h)) := x_cmpT (op_eqD hu) (s_eq _) ha hb (nomark _)
end
def asInts : List PV → Option (List Int)
  | [] => some []
  | .int i :: l => (asInts l).map (i :: ·)
  | _ => none
theorem asInts_of : ∀ {c : List PV} {xs : List Int}, asInts c = some xs → c = xs.map PV.int
  | [], xs, h => by cases h; rfl
  | .int i :: l, xs, h => by
    unfold asInts at h
    cases q : asInts l with
    | none => rw [q] at h; cases h
    | some ys => rw [q] at h; cases h; rw [asInts_of q]; rfl
  | .non :: _, _, h => by cases h
  | .bl _ :: _, _, h => by cases h
  | .str _ :: _, _, h => by cases h
  | .tup _ :: _, _, h => by cases h
  | .lst _ :: _, _, h => by cases h
  | .frz _ :: _, _, h => by cases h
  | .dct :: _, _, h => by cases h
  | .dt _ :: _, _, h => by cases h
  | .obj _ _ _ :: _, _, h => by cases h
theorem asInts_map : ∀ xs : List Int, asInts (xs.map PV.int) = some xs
  | [] => rfl
  | x :: xs => by rw [List.map_cons]; unfold asInts; rw [asInts_map xs]; rfl
/-- all but the list at a stay -/
def KeptA (a : Addr) (H H' : Hp) : Prop := ∀ d o, H d = some o → d ≠ a → H' d = some o
theorem KeptA.refl (a : Addr) (H : Hp) : KeptA a H H := fun _ _ h _ => h
theorem KeptA.trans {a : Addr} {H H1 H2 : Hp} (k : KeptA a H H1) (l : KeptA a H1 H2) : KeptA a H H2 := fun d o h n => l d o (k d o h n) n
theorem KeptA.same {a : Addr} {H H' : Hp} (s : Same H H') : KeptA a H H' := fun d o h _ => s d o h
theorem KeptB.a {b : Nat} {σ : St} {a : Addr} {H H' : Hp} (h : σ[b]? = some (some (.ref a))) (k : KeptB b σ H H') : KeptA a H H' := fun d o hd n => k d o hd fun z => by rw [h] at z; cases z; exact n rfl
theorem KeptA.b {b : Nat} {σ : St} {a : Addr} {H H' : Hp} (h : σ[b]? = some (some (.ref a))) (k : KeptA a H H') : KeptB b σ H H' := fun d o hd n => k d o hd fun z => n (by rw [z]; exact h)
def spB (F : List Int → Int → Option (Int × List Int)) : Sp := fun vs H Q _ => ∃ a xs n, vs = [.ref a, .int n] ∧ H a = some (.lst (xs.map V.int)) ∧ (match F xs n with
  | some (d, ys) => ∀ H', H' a = some (.lst (ys.map V.int)) → KeptA a H H' → Q (.int d) H'
  | none => False)
def Okb (P : Program) (w : World) (K : PySem.W.Frag) (mg : Str → Option Value) (base : Heap) (x : Str) (ps : List Str) (k : Nat) (F : List Int → Int → Option (Int × List Int)) : Prop :=
  ∃ f fd, mg x = some (.ref f) ∧ PySem.W.keepIn K (.ref f) = true ∧ L2.Binds K fd ps [] ∧ FnOk P w K mg base (L2N.CX P w) k f fd ps (spB F)
def xTake (b : Nat) (F : List Int → Int → Option (Int × List Int)) (f : Rho → R (PV × List PV)) : Rho → R (PV × List PV) := fun ρ => (f ρ).bind fun x => match x.1, asInts x.2 with
  | .int n, some xs => (match F xs n with
    | some (d, ys) => .ok (.int d, ys.map PV.int)
    | none => .stuck)
  | _, _ => .stuck
section
variable {X : Cx} {W : WX} {e o : Expr} {es : List Expr} {pos p : Pos} {b : Nat} {f : Rho → R (PV × List PV)}
theorem x_take {x : Str} {k j : Nat} {F : List Int → Int → Option (Int × List Int)} {pn : List Str} (h : Okb X.prog X.w X.K X.mg X.base x pn j F) (hr : Room k X.A) (hjk : j ≤ k) (tk : L2N.Takes X W) (hg : Gl X x) (ho : PE X o (tVar b)) (ha : XJ X b e f) (hdb : (x == ("__debug__" : Str)) = false := by decide)
    (hs2 : starEach [e] X.env = (false, eval e X.env) :: starEach [] X.env := by rfl) (he : starEach [o, e] X.env = (false, eval o X.env) :: starEach [e] X.env := by rfl) (hpl : (backTo pos (starEach [e] X.env)).any (·.1) = false := by rfl) :
    XJ X b (.Call (.Name x p) [o, e] [] pos) (xTake b F f) := by
  obtain ⟨fa, fd, h1, h2, h3, h4⟩ := h
  refine pe_imp (pe_callSD (E := fun σ cls d H => W cls d σ H) h4 (hr.mono hjk) hg h1 h2 (ds := []) (dvs := []) h3 .nil (fun σ => L2N.passAt tk σ) (pa_cons ho (pa_cons ha pa_nil hs2) he) hdb he hpl) fun σ H Q ⟨H0, O0, ρ, c, S, hb, G⟩ => ?_
  obtain ⟨a, vs0, e1, _⟩ := S.own b c hb
  refine ⟨.ref a, e1, H0, O0, ρ, c, S, hb, ?_⟩
  revert G
  unfold xTake
  cases f ρ with
  | stuck => exact False.elim
  | exc c => exact False.elim
  | ok x =>
    obtain ⟨q, c1⟩ := x
    rw [R.bind_ok]
    show GotX X.K O0 σ ρ b H0 H Q (match q, asInts c1 with
      | .int n, some xs => (match F xs n with
        | some (d, ys) => .ok (.int d, ys.map PV.int)
        | none => .stuck)
      | _, _ => .stuck) → _
    intro G' v H1 S1 k1 r1
    cases q with
    | int n =>
      cases hc : asInts c1 with
      | none => rw [hc] at G'; exact G'.elim
      | some xs =>
        rw [hc] at G'
        cases asInts_of hc
        cases r1
        obtain ⟨a', vs, e1', e2, e3, e4, e5⟩ := S1.own b _ (set_has hb)
        rw [e1] at e1'; cases e1'
        cases e5.ints
        refine ⟨a, xs, n, rfl, e2, ?_⟩
        have G' : GotX X.K O0 σ ρ b H0 H Q (match F xs n with
          | some (d, ys) => .ok (.int d, ys.map PV.int)
          | none => .stuck) := G'
        revert G'
        cases F xs n with
        | none => exact False.elim
        | some dy =>
          obtain ⟨d, ys⟩ := dy
          intro G' H' ha' kA
          have S2 := S1.write (set_has hb) e1 (Reps.ofInts ys)
          rw [List.set_set] at S2
          refine G' _ H' (S2.step fun d o hd => ?_) (k1.trans (kA.b e1)) (.int d)
          by_cases z : d = a
          · rw [z, upd_same] at hd; cases hd; rw [z]; exact ha'
          · rw [upd_ne z] at hd; exact kA d o hd z
    | _ => exact G'.elim
end
abbrev OutX := R (Option PV × Rho)
def GotSX (K : PySem.W.Frag) (a : Addr) (H0 : Hp) (O0 : Addr → Prop) (H : Hp) (D : Ends) : OutX → Prop
  | .ok (none, ρ') => ∀ σ' H', StR K H0 O0 H' σ' ρ' → σ'[0]? = some (some (.ref a)) → KeptA a H H' → D.nx σ' H'
  | .ok (some p, ρ') => ∀ v σ' H', StR K H0 O0 H' σ' ρ' → σ'[0]? = some (some (.ref a)) → KeptA a H H' → Rep K H' (OO O0 σ' ρ') v p → D.rt v H'
  | _ => False
def tSX (K : PySem.W.Frag) (a : Addr) (g : Rho → OutX) : TS := fun D σ H => ∃ H0 O0 ρ c, StR K H0 O0 H σ ρ ∧ ρ[0]? = some (.own c) ∧ σ[0]? = some (some (.ref a)) ∧ GotSX K a H0 O0 H D (g ρ)
abbrev SXJ (X : Cx) (a : Addr) (st : Stmt) (g : Rho → OutX) : Prop := PS X st (tSX X.K a g)
abbrev BXJ (X : Cx) (a : Addr) (st : List Stmt) (g : Rho → OutX) : Prop := PSs X st (tSX X.K a g)
theorem GotSX.later {K : PySem.W.Frag} {a : Addr} {H0 H H1 : Hp} {O0 : Addr → Prop} {D : Ends} {o : OutX} (k : KeptA a H H1) (G : GotSX K a H0 O0 H D o) : GotSX K a H0 O0 H1 D o := by
  cases o with
  | ok x =>
    obtain ⟨r, ρ'⟩ := x
    cases r with
    | none => exact fun σ' H' S z k' => G σ' H' S z (k.trans k')
    | some p => exact fun v σ' H' S z k' => G v σ' H' S z (k.trans k')
  | exc c => exact G
  | stuck => exact G
section
variable {X : Cx} {W : WX} {e o : Expr} {st : Stmt} {rest : List Stmt} {pos p : Pos} {a : Addr} {f : Rho → R (PV × List PV)} {g h : Rho → OutX}
def hasB (ρ : Rho) : Bool := match ρ[(0 : Nat)]? with
  | some (.own _) => true
  | _ => false
theorem hasB_of {ρ : Rho} (h : hasB ρ = true) : ∃ c, ρ[(0 : Nat)]? = some (Slot.own c) := by
  unfold hasB at h
  split at h
  · rename_i c hc; exact ⟨c, hc⟩
  · cases h
def xNil : Rho → OutX := fun ρ => .ok (none, ρ)
def xSeq (g h : Rho → OutX) : Rho → OutX := fun ρ => match g ρ with
  | .ok (none, ρ') => if hasB ρ' = true then h ρ' else .stuck
  | o => o
theorem xb_nil : BXJ X a [] xNil := by
  refine pss_imp pss_nil fun D σ H ⟨H0, O0, ρ, c, S, hb, ha, G⟩ => ?_
  exact G σ H S ha (KeptA.refl _ _)
theorem xb_cons (h1 : SXJ X a st g) (h2 : BXJ X a rest h) : BXJ X a (st :: rest) (xSeq g h) := by
  refine pss_imp (pss_cons h1 h2) fun D σ H ⟨H0, O0, ρ, c, S, hb, ha, G⟩ => ⟨H0, O0, ρ, c, S, hb, ha, ?_⟩
  have G' : GotSX X.K a H0 O0 H D (match g ρ with
    | .ok (none, ρ') => if hasB ρ' = true then h ρ' else .stuck
    | o => o) := G
  revert G'
  cases g ρ with
  | ok x =>
    obtain ⟨r, ρ'⟩ := x
    cases r with
    | none =>
      intro G' σ' H' S' ha' k
      have G' : GotSX X.K a H0 O0 H D (if hasB ρ' = true then h ρ' else .stuck) := G'
      by_cases z : hasB ρ' = true
      · rw [if_pos z] at G'
        obtain ⟨c', hc'⟩ := hasB_of z
        exact ⟨H0, O0, ρ', c', S', hc', ha', GotSX.later k G'⟩
      · rw [if_neg z] at G'; exact G'.elim
    | some p => exact fun G => G
  | exc c => exact fun G => G
  | stuck => exact fun G => G
def xSet (i : Nat) (f : Rho → R (PV × List PV)) : Rho → OutX := fun ρ => match f ρ with
  | .ok (p, c) => if i = 0 then .stuck else .ok (none, (ρ.set 0 (.own c)).set i (.val p))
  | _ => .stuck
theorem xs_set {i : Nat} {x : Str} {pos' : Pos} (hN : X.N.Nodup) (hi : X.N[i]? = some x) (hx : Loc X.env.scope x) (he : XJ X 0 e f) (hs : swapsWith e (some (.Name x pos')) pos.line X.env = pure false := by rfl) (hf : X.fn x = true ∨ X.env.scope.names.lookup x = some .local := by first | exact .inl rfl | exact .inr rfl | assumption) :
    SXJ X a (.Assign [.Name x pos'] e pos) (xSet i f) := by
  refine ps_imp (ps_set hN hi hx he hs hf) fun D σ H ⟨H0, O0, ρ, c, S, hb, ha, G⟩ => ⟨H0, O0, ρ, c, S, hb, ?_⟩
  revert G
  unfold xSet
  cases f ρ with
  | stuck => exact False.elim
  | exc c => exact False.elim
  | ok x =>
    obtain ⟨p, c1⟩ := x
    intro G v H' S' k r
    have G : GotSX X.K a H0 O0 H D (if i = 0 then .stuck else .ok (none, (ρ.set 0 (.own c1)).set i (.val p))) := G
    by_cases z : i = 0
    · rw [if_pos z] at G; exact G.elim
    · rw [if_neg z] at G
      refine G (σ.set i (some v)) H' (S'.set (s := .val p) (fun _ z => nomatch z) fun q z => by cases z; exact ⟨v, rfl, r.less fun d z => (oo_box hb).mp z⟩) ?_ (k.a ha)
      rw [List.getElem?_set_ne z]; exact ha
def xIf (t : Rho → R (Bool × List PV)) (g h : Rho → OutX) : Rho → OutX := fun ρ => match t ρ with
  | .ok (true, c) => g (ρ.set 0 (.own c))
  | .ok (false, c) => h (ρ.set 0 (.own c))
  | _ => .stuck
theorem xs_if {c : Expr} {s1 s2 : List Stmt} {t : Rho → R (Bool × List PV)} (hc : XTJ X 0 c t) (h1 : BXJ X a s1 g) (h2 : BXJ X a s2 h) : SXJ X a (.If c s1 s2 pos) (xIf t g h) := by
  refine ps_imp (ps_if hc h1 h2) fun D σ H ⟨H0, O0, ρ, c, S, hb, ha, G⟩ => ⟨H0, O0, ρ, c, S, hb, ?_⟩
  revert G
  unfold xIf
  cases t ρ with
  | stuck => exact False.elim
  | exc c => exact False.elim
  | ok x =>
    obtain ⟨k, c1⟩ := x
    cases k with
    | true => exact fun G H' S' k => iteT ⟨H0, O0, _, c1, S', set_has hb, ha, GotSX.later (k.a ha) G⟩
    | false => exact fun G H' S' k => iteF ⟨H0, O0, _, c1, S', set_has hb, ha, GotSX.later (k.a ha) G⟩
def xRet (f : Rho → R (PV × List PV)) : Rho → OutX := fun ρ => match f ρ with
  | .ok (p, c) => .ok (some p, ρ.set 0 (.own c))
  | _ => .stuck
theorem xs_ret (he : XJ X 0 e f) : SXJ X a (.Return (some e) pos) (xRet f) := by
  refine ps_imp (ps_ret he) fun D σ H ⟨H0, O0, ρ, c, S, hb, ha, G⟩ => ⟨H0, O0, ρ, c, S, hb, ?_⟩
  revert G
  unfold xRet
  cases f ρ with
  | stuck => exact False.elim
  | exc c => exact False.elim
  | ok x =>
    obtain ⟨p, c1⟩ := x
    exact fun G v H' S' k r => G v σ H' S' ha (k.a ha) (r.less fun d z => (oo_box hb).mp z)
/-- box[i] = e -/
def xSetI (f fi : Rho → R PV) : Rho → OutX := fun ρ => match ρ[(0 : Nat)]? with
  | some (.own ps) => (match f ρ, fi ρ with
    | .ok p, .ok q => (match setP ps p q with
      | .ok qs => .ok (none, ρ.set 0 (.own qs))
      | _ => .stuck)
    | _, _ => .stuck)
  | _ => .stuck
theorem xs_setI {f fi : Rho → R PV} {ix : Expr} {p2 : Pos} (ho : PE X o (tVar 0)) (he : EJ X W .s e f) (hi : EJ X W .s ix fi)
    (hasg : ∀ v, assign (.Subscript o ix p2) X.env v = (do
      let ov ← holding [v] (eval o X.env)
      let iv ← holding [v, ov] (eval ix X.env)
      standAt p2
      holding [v, ov, iv] (setItem ov iv v)
      release [v, ov, iv] []) := by intro _; rfl)
    (hs : swapsWithSole [.Subscript o ix p2] e pos.line X.env = pure false := by rfl) (hw : swappedStores [.Subscript o ix p2] e X.env = pure none := by rfl)
    (h1 : (assignEach [.Subscript o ix p2] X.env).map (·.2) = [assign (.Subscript o ix p2) X.env] := by rfl) : SXJ X a (.Assign [.Subscript o ix p2] e pos) (xSetI f fi) := by
  refine ps_imp (ps_asg he (pg_sub ho hi set_list hasg) hs hw h1) fun D σ H ⟨H0, O0, ρ, c, S, hb, ha, G⟩ => ⟨H0, O0, ρ, S, ?_⟩
  revert G
  unfold xSetI
  rw [hb]
  show GotSX X.K a H0 O0 H D (match f ρ, fi ρ with
    | .ok p, .ok q => (match setP c p q with
      | .ok qs => .ok (none, ρ.set 0 (.own qs))
      | _ => .stuck)
    | _, _ => .stuck) → _
  cases f ρ with
  | stuck => exact False.elim
  | exc c => exact False.elim
  | ok p =>
    cases hfi : fi ρ with
    | stuck => exact False.elim
    | exc c => exact False.elim
    | ok q =>
      intro G v H1 s1 r1
      have r1 : Rep X.K H1 (OO O0 σ ρ) v p := r1
      have S1 := S.step s1
      refine ⟨.ref a, ha, H0, O0, ρ, S1, ?_⟩
      rw [hfi]
      intro w H2 s2 r2
      obtain ⟨a', vs, e1, e2, e3, e4, e5⟩ := S1.own 0 c hb
      rw [ha] at e1; cases e1
      have G : GotSX X.K a H0 O0 H D (match setP c p q with
        | .ok qs => .ok (none, ρ.set 0 (.own qs))
        | _ => .stuck) := G
      cases hq : setP c p q with
      | stuck => rw [hq] at G; exact G.elim
      | exc c => rw [hq] at G; exact G.elim
      | ok qs =>
        rw [hq] at G
        unfold setP at hq
        split at hq
        · split at hq
          · rename_i j hj
            cases hq
            cases (show Rep X.K H2 (OO O0 σ ρ) w (.int _) from r2)
            have r5 := (e5.same s2).set (r1.same s2) j
            refine ⟨a, vs, _, j, rfl, rfl, s2 _ _ e2, by rw [e5.length]; exact hj, G σ _ ((S1.step s2).write hb ha r5) ha ?_⟩
            exact fun d o hd n => by rw [upd_ne n]; exact s2 _ _ (s1 _ _ hd)
          · cases hq
        · cases hq
end
end PL
set_option Elab.async false
set_option linter.all false
set_option maxRecDepth 100000
set_option autoImplicit false
namespace PL
open PySem PySem.Spec L2
open PyProof.Rows hiding St
theorem start_box {K : PySem.W.Frag} {H : Hp} {a : Addr} {xs : List Int} {n : Int} {N : List Str} (ha : H a = some (.lst (xs.map V.int))) (hN : 2 ≤ N.length) :
    StR K (fun d => if d = a then none else H d) (fun _ => False) H (L2.start N [.ref a, .int n]) (Slot.own (xs.map PV.int) :: Slot.val (.int n) :: List.replicate (N.length - 2) Slot.un) := by
  have hs : L2.start N [.ref a, .int n] = some (V.ref a) :: some (V.int n) :: List.replicate (N.length - 2) none := rfl
  rw [hs]
  have own0 : ∀ (i : Nat) (ps : List PV), (Slot.own (xs.map PV.int) :: Slot.val (.int n) :: List.replicate (N.length - 2) Slot.un)[i]? = some (.own ps) → i = 0 ∧ ps = xs.map PV.int := fun i ps h => by
    match i with
    | 0 => cases h; exact ⟨rfl, rfl⟩
    | 1 => cases h
    | i + 2 =>
      have h : (List.replicate (N.length - 2) Slot.un)[i]? = some (.own ps) := h
      cases (List.mem_replicate.mp (List.mem_of_getElem? h)).2
  refine ⟨by simp, fun d o h => ?_, fun d z => z.elim, fun i ps h => ?_, fun i j d ps qs h1 h2 _ _ => (own0 i ps h1).1.trans (own0 j qs h2).1.symm, fun i p h => ?_, fun i d h => ?_, fun i d l h => by
    match i with
    | 0 => cases h
    | 1 => cases h
    | i + 2 =>
      have h : (List.replicate (N.length - 2) Slot.un)[i]? = some (.dd d l) := h
      cases (List.mem_replicate.mp (List.mem_of_getElem? h)).2⟩
  · by_cases z : d = a
    · rw [if_pos z] at h; cases h
    · rw [if_neg z] at h; exact h
  · obtain ⟨rfl, rfl⟩ := own0 i ps h
    exact ⟨a, xs.map V.int, rfl, ha, if_pos rfl, fun z => z, Reps.ofInts xs⟩
  · match i with
    | 0 => cases h
    | 1 => cases h; exact ⟨.int n, rfl, .int n⟩
    | i + 2 =>
      have h : (List.replicate (N.length - 2) Slot.un)[i]? = some (.val p) := h
      cases (List.mem_replicate.mp (List.mem_of_getElem? h)).2
  · match i with
    | 0 => cases h
    | 1 => cases h
    | i + 2 =>
      have h : (List.replicate (N.length - 2) Slot.un)[i]? = some (.ex d) := h
      cases (List.mem_replicate.mp (List.mem_of_getElem? h)).2
def boxD (p : PV) (ρ : Rho) : Option (Int × List Int) := match p, ρ[(0 : Nat)]? with
  | .int d, some (.own c) => (asInts c).map fun ys => (d, ys)
  | _, _ => none
def runB (n : Nat) (g : Rho → OutX) : List Int → Int → Option (Int × List Int) := fun xs k => match g (Slot.own (xs.map PV.int) :: Slot.val (.int k) :: List.replicate (n - 2) Slot.un) with
  | .ok (some p, ρ') => boxD p ρ'
  | _ => none
theorem okb_def {P : Program} {w : World} {K : PySem.W.Frag} {mg : Str → Option Value} {base : Heap} {x : Str} {st : Stmt} {N ps : List Str} {k : Nat} {g : Rho → OutX} (T : DefE K mg x st ps) (S : FnScope N ps (defScope st)) (hn : 2 = ps.length) (hN : 2 ≤ N.length)
    (hbody : ∀ (f : Addr) (cdv : Value) (A : Around) (outer : List PySem.Env) (s : Shared) (H : Hp) (E : XK) (a : Addr), Room k (A.deeper (envOfC x (defScope st) s.heap.objs.size f cdv)) →
      BXJ (cxOf (L2N.CX P w) P w K mg base N x (defScope st) f cdv A outer s H E) a (defBody st) g) :
    Okb P w K mg base x ps (k + 1) (runB N.length g) := by
  obtain ⟨f, fd, T⟩ := T
  refine ⟨f, fd, T.g, T.F.kp, T.b, Fun_okN T.F S (fun vs H Q E h => ?_) (fun cdv A outer s H vs Q E hr h => ?_)⟩
  · obtain ⟨a, xs, n, e, _⟩ := h
    rw [e, ← hn]; rfl
  · obtain ⟨a, xs, n, e, ha, h⟩ := h
    subst e
    refine ⟨_, hbody f cdv A outer s H E a hr, _, _, _, _, start_box ha hN, rfl, rfl, ?_⟩
    unfold runB at h
    revert h
    cases hg : g (Slot.own (xs.map PV.int) :: Slot.val (.int n) :: List.replicate (N.length - 2) Slot.un) with
    | stuck => exact False.elim
    | exc c => exact False.elim
    | ok r =>
      obtain ⟨q, ρ'⟩ := r
      cases q with
      | none => exact False.elim
      | some p =>
        show (match boxD p ρ' with
          | some (d, ys) => ∀ H', H' a = some (.lst (ys.map V.int)) → KeptA a H H' → Q (.int d) H'
          | none => False) → _
        intro h v σ' H' S' z kp r
        unfold boxD at h
        split at h
        · rename_i d ys hd
          split at hd
          · rename_i d' c hc
            cases hi : asInts c with
            | none => rw [hi] at hd; cases hd
            | some zs =>
              rw [hi] at hd
              cases hd
              cases r
              cases asInts_of hi
              obtain ⟨a', vs, e1, e2, e3, e4, e5⟩ := S'.own 0 _ hc
              rw [z] at e1; cases e1
              cases e5.ints
              exact h H' e2 kp
          · cases hd
        · exact h.elim
section
variable {X : Cx} {W : WX} {nw : Bool} {e : Expr} {pos : Pos} {b : Nat} {f : Rho → R (PV × List PV)} {g h : Rho → Out}
def ownB (b : Nat) (ρ : Rho) : Bool := match ρ[b]? with
  | some (.own _) => true
  | _ => false
theorem ownB_of {b : Nat} {ρ : Rho} (h : ownB b ρ = true) : ∃ c, ρ[b]? = some (Slot.own c) := by
  unfold ownB at h
  split at h
  · rename_i c hc; exact ⟨c, hc⟩
  · cases h
def sIfX (b : Nat) (t : Rho → R (Bool × List PV)) (g h : Rho → Out) : Rho → Out := fun ρ => if ownB b ρ = true then (match t ρ with
  | .ok (true, c) => g (ρ.set b (.own c))
  | .ok (false, c) => h (ρ.set b (.own c))
  | _ => .stuck) else .stuck
theorem s_ifX {c : Expr} {s1 s2 : List Stmt} {t : Rho → R (Bool × List PV)} (hc : XTJ X b c t) (h1 : BJ X W nw s1 g) (h2 : BJ X W nw s2 h) : SJ X W nw (.If c s1 s2 pos) (sIfX b t g h) := by
  refine ps_imp (ps_if hc h1 h2) fun D σ H ⟨H0, O0, ρ, S, G⟩ => ?_
  unfold sIfX at G
  by_cases ho : ownB b ρ = true
  · rw [if_pos ho] at G
    obtain ⟨c, hb⟩ := ownB_of ho
    refine ⟨H0, O0, ρ, c, S, hb, ?_⟩
    revert G
    cases t ρ with
    | stuck => exact False.elim
    | exc c => exact False.elim
    | ok x =>
      obtain ⟨k, c1⟩ := x
      cases k with
      | true => exact fun G H' S' k => iteT ⟨H0, O0, _, S', GotS.later (k.kept hb) G⟩
      | false => exact fun G H' S' k => iteF ⟨H0, O0, _, S', GotS.later (k.kept hb) G⟩
  · rw [if_neg ho] at G; exact G.elim
end
end PL
set_option Elab.async false
set_option linter.all false
set_option maxRecDepth 100000
set_option autoImplicit false
namespace PL
open PySem PySem.Spec L2
open PyProof.Rows hiding St
theorem wipeR_len (ρ : Rho) : ∀ vs : List Nat, (wipeR ρ vs).length = ρ.length
  | [] => rfl
  | v :: vs => by unfold wipeR; rw [List.length_set, wipeR_len ρ vs]
theorem wipeR_getI (ρ : Rho) : ∀ (vs : List Nat) (i : Nat), (wipeR ρ vs)[i]? = if i ∈ vs then (if i < ρ.length then some .un else none) else ρ[i]?
  | [], i => by simp [wipeR]
  | v :: vs, i => by
    unfold wipeR
    by_cases e : v = i
    · subst e
      rw [if_pos List.mem_cons_self]
      by_cases h : v < ρ.length
      · rw [if_pos h, List.getElem?_set_self (by rw [wipeR_len]; exact h)]
      · rw [if_neg h, List.getElem?_eq_none (by rw [List.length_set, wipeR_len]; omega)]
    · rw [List.getElem?_set_ne e, wipeR_getI ρ vs i]
      have : i ∈ v :: vs ↔ i ∈ vs := by
        rw [List.mem_cons]
        exact ⟨fun z => z.elim (fun z => absurd z.symm e) id, .inr⟩
      simp only [this]
theorem wipeR_back {ρ ρ1 : Rho} {vs : List Nat} {b : Nat} {s : Slot} (hb : b ∉ vs) (hl : ρ1.length = ρ.length) (h : ∀ i : Nat, i ∉ vs → i ≠ b → ρ1[i]? = ρ[i]?) : wipeR (ρ1.set b s) vs = (wipeR ρ vs).set b s := by
  refine List.ext_getElem? fun i => ?_
  rw [wipeR_getI]
  by_cases e : b = i
  · subst e
    rw [if_neg hb]
    by_cases hlt : b < ρ.length
    · rw [List.getElem?_set_self (by rw [hl]; exact hlt), List.getElem?_set_self (by rw [wipeR_len]; exact hlt)]
    · rw [List.getElem?_eq_none (by rw [List.length_set]; omega), List.getElem?_eq_none (by rw [List.length_set, wipeR_len]; omega)]
  · rw [List.getElem?_set_ne e, List.getElem?_set_ne e, wipeR_getI]
    by_cases hi : i ∈ vs
    · rw [if_pos hi, if_pos hi, List.length_set, hl]
    · rw [if_neg hi, if_neg hi, h i hi (Ne.symm e)]
theorem notOwn_of {ρ : Rho} {vs : List Nat} (hn : vs.all (notOwn ρ) = true) {i : Nat} {ps : List PV} (h : ρ[i]? = some (.own ps)) : i ∉ vs := fun hi => by
  have := List.all_eq_true.mp hn i hi
  unfold notOwn at this
  rw [h] at this
  cases this
/-- out of the comprehension again -/
theorem unwipe {K : PySem.W.Frag} {H0 H1 Hc : Hp} {O0 O1 : Addr → Prop} {σ : St} {ρ : Rho} {vs : List Nat} {b : Nat} {c c' : List PV} (hn : vs.all (notOwn ρ) = true) (hb : ρ[b]? = some (.own c)) (hO : ∀ d, O0 d → O1 d) (S1 : StR K H0 O0 H1 σ ρ)
    (Sc : StR K H0 O1 Hc (wipe σ vs) ((wipeR ρ vs).set b (.own c'))) (k : KeptB b σ H1 Hc) : StR K H0 O0 Hc σ (ρ.set b (.own c')) ∧ ∀ d, OO O0 σ ρ d → OO O1 (wipe σ vs) ((wipeR ρ vs).set b (.own c')) d := by
  have hbv := notOwn_of hn hb
  have nov : ∀ {i : Nat} {ps : List PV}, (ρ.set b (.own c'))[i]? = some (.own ps) → i ∉ vs := fun {i ps} h => by
    by_cases e : b = i
    · subst e; exact hbv
    · rw [List.getElem?_set_ne e] at h; exact notOwn_of hn h
  have eqr : ∀ {i : Nat}, i ∉ vs → ((wipeR ρ vs).set b (.own c'))[i]? = (ρ.set b (.own c'))[i]? := fun {i} h => by
    by_cases e : b = i
    · subst e
      rw [set_has hb, set_has (s := .own c) (by rw [wipeR_get ρ vs b h]; exact hb)]
    · rw [List.getElem?_set_ne e, List.getElem?_set_ne e, wipeR_get ρ vs i h]
  have eqs : ∀ {i : Nat}, i ∉ vs → (wipe σ vs)[i]? = σ[i]? := fun {i} h => by rw [wipe_get, if_neg h]
  have oo : ∀ d, OO O0 σ (ρ.set b (.own c')) d → OO O1 (wipe σ vs) ((wipeR ρ vs).set b (.own c')) d := fun d z => by
    rcases z with z | ⟨j, us, z1, z2⟩
    · exact .inl (hO d z)
    · exact .inr ⟨j, us, by rw [eqr (nov z1)]; exact z1, by rw [eqs (nov z1)]; exact z2⟩
  refine ⟨⟨by rw [List.length_set]; exact S1.len, Sc.same, fun d z => Sc.all0 d (hO d z), fun i ps h => ?_, fun i j d ps qs h1 h2 h3 h4 => ?_, fun i p h => ?_, fun i d h => ?_, fun i d l h => by
    have e : b ≠ i := fun e => by subst e; rw [set_has hb] at h; cases h
    rw [List.getElem?_set_ne e] at h
    obtain ⟨f1, f2, f3, f4, f5, f6⟩ := S1.dds i d l h
    refine ⟨f1, k d _ f2 fun z => ?_, f3, f4, fun j l' z => f5 j l' (dd_old (s := .own c') (fun _ _ q => nomatch q) z), fun d2 xs o z => ?_⟩
    rotate_left
    · obtain ⟨a', us, g1, g2, _, g4, _⟩ := S1.own b c hb
      cases q : H1 d2 with
      | none => exact S1.all0 d2 o q
      | some u =>
        have e := k d2 u q fun w => g4 (by rw [g1] at w; cases w; exact o)
        rw [z] at e
        cases e
        exact f6 d2 xs o q
    obtain ⟨a', us, g1, g2, _⟩ := S1.own b c hb
    rw [z] at g1; cases g1; rw [g2] at f2; cases f2⟩, fun d z => oo d ((oo_box hb).mpr z)⟩
  · obtain ⟨d, ws, e1, e2, e3, e4, e5⟩ := Sc.own i ps (by rw [eqr (nov h)]; exact h)
    exact ⟨d, ws, by rw [← eqs (nov h)]; exact e1, e2, e3, fun z => e4 (hO d z), e5.less oo⟩
  · exact Sc.dis i j d ps qs (by rw [eqr (nov h1)]; exact h1) (by rw [eqr (nov h2)]; exact h2) (by rw [eqs (nov h1)]; exact h3) (by rw [eqs (nov h2)]; exact h4)
  · have e : b ≠ i := fun e => by subst e; rw [set_has hb] at h; cases h
    rw [List.getElem?_set_ne e] at h
    obtain ⟨v, e1, e2⟩ := S1.val i p h
    exact ⟨v, e1, e2.mono (k.kept hb)⟩
  · have e : b ≠ i := fun e => by subst e; rw [set_has hb] at h; cases h
    rw [List.getElem?_set_ne e] at h
    exact S1.exs i d h
def lcGoX (b : Nat) (tgt : PV → Rho → Option Rho) (elt : Rho → R (PV × List PV)) (ρ : Rho) : List PV → List PV → R (List PV × List PV)
  | c, [] => .ok ([], c)
  | c, p :: ps => match tgt p (ρ.set b (.own c)) with
    | none => .stuck
    | some ρ1 => (match ownB b ρ1, elt ρ1 with
      | true, .ok (q, c1) => (match lcGoX b tgt elt ρ c1 ps with
        | .ok (qs, c2) => .ok (q :: qs, c2)
        | _ => .stuck)
      | _, _ => .stuck)
def xLc (b : Nat) (vs : List Nat) (it : Rho → R (List PV)) (tgt : PV → Rho → Option Rho) (elt : Rho → R (PV × List PV)) : Rho → R (PV × List PV) := fun ρ =>
  if vs.all (notOwn ρ) = true then (match ρ[b]? with
    | some (.own c) => (it ρ).bind fun items => if items.length ≤ sizeLine then (match lcGoX b tgt elt (wipeR ρ vs) c items with
      | .ok (qs, c2) => .ok (.lst qs, c2)
      | _ => .stuck) else .stuck
    | _ => .stuck)
  else .stuck
end PL
set_option Elab.async false
set_option linter.all false
set_option maxRecDepth 100000
set_option autoImplicit false
namespace PL
open PySem PySem.Spec L2
open PyProof.Rows hiding St
section
variable {X : Cx} {W : WX} {nw : Bool} {a a' e tg it : Expr} {pos : Pos} {b : Nat} {f h : Rho → R (PV × List PV)}
theorem x_add (ha : XJ X b a f) (hb : XJ X b a' h) : XJ X b (.BinOp a .Add a' pos) (x2 b addP f h) := x_op op_addP (s_addP _) ha hb
theorem x_sub (ha : XJ X b a f) (hb : XJ X b a' h) : XJ X b (.BinOp a .Sub a' pos) (x2 b subP f h) := x_op op_sub (s_int0 fun _ _ _ _ => .int _) ha hb
end
end PL
set_option Elab.async false
set_option linter.all false
set_option maxRecDepth 100000
set_option autoImplicit false
namespace PL
open PySem PySem.Spec L2
open PyProof.Rows hiding St
section
variable {b i : Nat} {ρ ρ1 : Rho} {f h : Rho → R (PV × List PV)} {g : PV → PV → R PV} {p q : PV} {c c1 c2 d : List PV}
theorem xL_ok {f : Rho → R PV} (hb : ρ[b]? = some (.own c)) (h : f ρ = .ok p) : xL b f ρ = .ok (p, c) := by
  unfold xL
  rw [hb]
  show (match f ρ with
    | .ok p => R.ok (p, c)
    | _ => .stuck) = _
  rw [h]
theorem x2_ok {r : PV} (h1 : f ρ = .ok (p, c)) (h2 : h (ρ.set b (.own c)) = .ok (q, d)) (h3 : g p q = .ok r) : x2 b g f h ρ = .ok (r, d) := by
  unfold x2
  rw [h1, R.bind_ok, h2, R.bind_ok, h3, R.bind_ok]
theorem xB_ok {k : Bool} (h : f ρ = .ok (.bl k, c)) : xB f ρ = .ok (k, c) := by
  unfold xB
  rw [h]
  rfl
theorem xTake_ok {F : List Int → Int → Option (Int × List Int)} {n x : Int} {xs ys : List Int} (h : f ρ = .ok (.int n, xs.map PV.int)) (ht : F xs n = some (x, ys)) : xTake b F f ρ = .ok (.int x, ys.map PV.int) := by
  unfold xTake
  rw [h, R.bind_ok]
  show (match PV.int n, asInts (xs.map PV.int) with
    | .int n, some xs => (match F xs n with
      | some (d, ys) => R.ok (PV.int d, ys.map PV.int)
      | none => .stuck)
    | _, _ => .stuck) = _
  rw [asInts_map]
  show (match F xs n with
      | some (d, ys) => R.ok (PV.int d, ys.map PV.int)
      | none => .stuck) = _
  rw [ht]
theorem xLc_ok {vs : List Nat} {it : Rho → R (List PV)} {tgt : PV → Rho → Option Rho} {items qs : List PV} (hn : vs.all (notOwn ρ) = true) (hb : ρ[b]? = some (.own c)) (hi : it ρ = .ok items) (hl : items.length ≤ sizeLine) (hg : lcGoX b tgt f (wipeR ρ vs) c items = .ok (qs, c2)) : xLc b vs it tgt f ρ = .ok (.lst qs, c2) := by
  unfold xLc
  rw [if_pos hn, hb]
  show ((it ρ).bind fun items => if items.length ≤ sizeLine then (match lcGoX b tgt f (wipeR ρ vs) c items with
      | .ok (qs, c2) => R.ok (PV.lst qs, c2)
      | _ => .stuck) else .stuck) = _
  rw [hi, R.bind_ok, if_pos hl, hg]
theorem lcX_cons {tgt : PV → Rho → Option Rho} {ps ds : List PV} {u : PV} (ht : tgt q (ρ.set b (.own c)) = some ρ1) (ho : ownB b ρ1 = true) (he : f ρ1 = .ok (u, c1)) (hr : lcGoX b tgt f ρ c1 ps = .ok (ds, c2)) : lcGoX b tgt f ρ c (q :: ps) = .ok (u :: ds, c2) := by
  unfold lcGoX
  rw [ht]
  dsimp only
  rw [ho, he]
  dsimp only
  rw [hr]
end
end PL
set_option Elab.async false
set_option linter.all false
set_option maxRecDepth 100000
set_option autoImplicit false
namespace PL
open PySem PySem.Spec L2
open PyProof.Rows hiding St
def asStrs : List PV → Option (List Str)
  | [] => some []
  | .str s :: r => (asStrs r).map (s :: ·)
  | _ => none
@[simp] theorem asStrs_map : ∀ ys : List Str, asStrs (ys.map PV.str) = some ys
  | [] => rfl
  | y :: ys => by rw [List.map_cons, asStrs, asStrs_map ys]; rfl
/-- a method of a text with one argument -/
def eM (g : PV → PV → R PV) (f h : Rho → R PV) : Rho → R PV := fun ρ => (f ρ).bind fun p => match p with
  | .str _ => (h ρ).bind fun q => g p q
  | _ => .stuck
section
variable {X : Cx} {W : WX} {m1 m : Md} {o e : Expr} {apos pos : Pos} {f h : Rho → R PV}
variable {a b : Expr}
def signsP (x : Str) : List PV := x.cps.toList.map fun c => PV.str ⟨#[c]⟩
def iStrP (f : Rho → R PV) : Rho → R (List PV) := fun ρ => (f ρ).bind fun p => match p with
  | .str x => .ok (signsP x)
  | _ => .stuck
end
end PL
set_option Elab.async false
set_option linter.all false
set_option maxRecDepth 100000
set_option autoImplicit false
namespace PM
open PySem PySem.Spec L2 PL
open PyProof.Rows hiding St
noncomputable def D_is_whole : Rho → Out := (bSeq (sRet (eAn (e1 (isiP "int") (eVo 0)) (e1 notP (e1 (isiP "bool") (eVo 0))))) bNil)
noncomputable def F_is_whole : List PV → R PV := runF 1 D_is_whole
noncomputable def D_is_prime : Rho → Out := (bSeq (sIf (tOr' (tNt (tB1 (eD F_is_whole (aCons (eV 0) aNil)))) (tOr' (tB1 (e2 ltP (eVo 0) (eC (.int 2)))) (tB1 (e2 gtP (eVo 0) (eC (.int 97)))))) (bSeq (sRet (eC (.bl false))) bNil) bNil) (bSeq (sRet (eD allP (aCons (eLc [1] (iR rng2 (aCons (eC (.int 2)) (aCons (eVo 0) aNil))) (gN 1) cYes (e2 neP (e2 modP (eVo 0) (eVo 1)) (eC (.int 0)))) aNil))) bNil))
noncomputable def F_is_prime : List PV → R PV := runF 2 D_is_prime
noncomputable def D_exponent : Rho → Out := (bSeq (sSet 2 (eC (.int 0))) (bSeq (sTo (gT (gsCons (gN 3) (gsCons (gN 4) gsNil))) (eD divmodP (aCons (eVo 1) (aCons (eVo 0) aNil)))) (bSeq (sWh (tB1 (e2 eqP (eVo 4) (eC (.int 0)))) (bSeq (sAug 2 (intP (fun _ _ => true) fun a b => .int (a + b)) (eC (.int 1))) (bSeq (sTo (gT (gsCons (gN 3) (gsCons (gN 4) gsNil))) (eD divmodP (aCons (eVo 3) (aCons (eVo 0) aNil)))) bNil))) (bSeq (sRet (eV 2)) bNil))))
noncomputable def F_exponent : List PV → R PV := runF 5 D_exponent
noncomputable def D_divisor : Rho → Out := (bSeq (sSet 0 (eD absP (aCons (eVo 0) aNil))) (bSeq (sSet 1 (eD absP (aCons (eVo 1) aNil))) (bSeq (sWh (tB1 (e2 gtP (eVo 1) (eC (.int 0)))) (bSeq (sPar 0 1 (aCons (eV 1) (aCons (e2 modP (eVo 0) (eVo 1)) aNil))) bNil)) (bSeq (sRet (eV 0)) bNil))))
noncomputable def F_divisor : List PV → R PV := runF 2 D_divisor
noncomputable def D_fraction : Rho → Out := (bSeq (sIf (tOr' (tNt (tB1 (eD F_is_whole (aCons (eV 0) aNil)))) (tOr' (tNt (tB1 (eD F_is_whole (aCons (eV 1) aNil)))) (tB1 (e2 eqP (eVo 1) (eC (.int 0)))))) (bSeq (sRaise "NoFraction") bNil) bNil) (bSeq (sSet 2 (eD F_divisor (aCons (eV 0) (aCons (eV 1) aNil)))) (bSeq (sIf (tB1 (e2 ltP (eVo 1) (eC (.int 0)))) (bSeq (sSet 2 (e1 negP (eVo 2))) bNil) bNil) (bSeq (sRet (eD tupP (aCons (e2 fdivP (eVo 0) (eVo 2)) (aCons (e2 fdivP (eVo 1) (eVo 2)) aNil)))) bNil))))
noncomputable def F_fraction : List PV → R PV := runF 3 D_fraction
noncomputable def D_are_figures : Rho → Out := (bSeq (sIf (tNt (tB1 (e1 (isiP2 "list" "tuple") (eVo 1)))) (bSeq (sRet (eC (.bl false))) bNil) bNil) (bSeq (sRet (eD allP (aCons (eLc [2] (iS (eV 1)) (gN 2) cYes (eAn (eD F_is_whole (aCons (eV 2) aNil)) (eChain leP ltP (eC (.int 0)) (eVo 2) (eVo 0)))) aNil))) bNil))
noncomputable def F_are_figures : List PV → R PV := runF 3 D_are_figures
noncomputable def D_left_number : Rho → Out := (bSeq (sIf (tNt (tB1 (eD F_is_prime (aCons (eV 0) aNil)))) (bSeq (sRaise "NoPrime") bNil) bNil) (bSeq (sIf (tNt (tB1 (eD F_is_whole (aCons (eV 1) aNil)))) (bSeq (sRaise "NoPlace") bNil) bNil) (bSeq (sIf (tNt (tB1 (eD F_are_figures (aCons (eV 0) (aCons (eV 2) aNil))))) (bSeq (sRaise "NoFigures") bNil) bNil) (bSeq (sSet 3 (eC (.int 0))) (bSeq (sWh (tAn (tB1 (e2 ltP (eVo 3) (eD lenP (aCons (eVo 2) aNil)))) (tB1 (e2 eqP (e2 ixP (eVo 2) (eVo 3)) (eC (.int 0))))) (bSeq (sAug 3 (intP (fun _ _ => true) fun a b => .int (a + b)) (eC (.int 1))) bNil)) (bSeq (sRet (eD tupP (aCons (eV 0) (aCons (e2 addP (eVo 1) (eVo 3)) (aCons (eD tupleP (aCons (eSl slP (eVo 2) (oSome (eV 3)) oNone) aNil)) aNil))))) bNil))))))
noncomputable def F_left_number : List PV → R PV := runF 4 D_left_number
noncomputable def D_of_whole : Rho → Out := (bSeq (sSetO 4 (eD lstP aNil)) (bSeq (sFor (iR rng1 (aCons (eVo 3) aNil)) (gN 5) (bSeq (sTo (gT (gsCons (gN 2) (gsCons (gN 6) gsNil))) (eD divmodP (aCons (eVo 2) (aCons (eVo 0) aNil)))) (bSeq (sMut 4 appP (eV 6)) bNil))) (sFrz 4 (bSeq (sRet (eD F_left_number (aCons (eV 0) (aCons (eV 1) (aCons (eV 4) aNil))))) bNil))))
noncomputable def F_of_whole : List PV → R PV := runF 7 D_of_whole
noncomputable def D_is_poly : Rho → Out := (bSeq (sIf (tOr' (tNt (tB1 (e1 (isiP "list") (eVo 0)))) (tOr' (tB1 (e2 ltP (eD lenP (aCons (eVo 0) aNil)) (eC (.int 2)))) (tB1 (e2 gtP (eD lenP (aCons (eVo 0) aNil)) (eC (.int 9)))))) (bSeq (sRet (eC (.bl false))) bNil) bNil) (bSeq (sRet (eAn (eD allP (aCons (eLc [1] (iS (eV 0)) (gN 1) cYes (eD F_is_whole (aCons (eV 1) aNil))) aNil)) (e2 neP (e2 ixP (eVo 0) (e1 negP (eC (.int 1)))) (eC (.int 0))))) bNil))
noncomputable def F_is_poly : List PV → R PV := runF 2 D_is_poly
noncomputable def D_want_poly : Rho → Out := (bSeq (sIf (tNt (tB1 (eD F_is_poly (aCons (eV 0) aNil)))) (bSeq (sRaise "NoPolynomial") bNil) bNil) bNil)
noncomputable def F_want_poly : List PV → R PV := runF 1 D_want_poly
noncomputable def D_slope_of : Rho → Out := (bSeq (sDrop (eD F_want_poly (aCons (eV 0) aNil))) (bSeq (sRet (eSl slL (eLc [1, 2] (iEn (eV 0)) (gT (gsCons (gN 1) (gsCons (gN 2) gsNil))) cYes (e2 mulP (eVo 1) (eVo 2))) (oSome (eC (.int 1))) oNone)) bNil))
noncomputable def F_slope_of : List PV → R PV := runF 3 D_slope_of
noncomputable def D_shifted : Rho → Out := (bSeq (sSetO 2 (eD listP (aCons (eVo 0) aNil))) (bSeq (sFor (iR rng1 (aCons (e2 subP (eD lenP (aCons (eVo 2) aNil)) (eC (.int 1))) aNil)) (gN 3) (bSeq (sFor (iR rng3 (aCons (e2 subP (eD lenP (aCons (eVo 2) aNil)) (eC (.int 2))) (aCons (e2 subP (eVo 3) (eC (.int 1))) (aCons (e1 negP (eC (.int 1))) aNil)))) (gN 4) (bSeq (sAugI 2 (eV 4) (e2 mulP (eVo 1) (e2 ixP (eVo 2) (e2 addP (eVo 4) (eC (.int 1)))))) bNil)) bNil)) (bSeq (sRetO 2) bNil)))
noncomputable def F_shifted : List PV → R PV := runF 5 D_shifted
noncomputable def D_lifted : Rho → Out := (bSeq (sSet 2 (eD minPL (aCons (eLc [5] (iS (eV 1)) (gN 5) (tB1 (e2 neP (eVo 5) (eC (.int 0)))) (eD F_exponent (aCons (eV 0) (aCons (eV 5) aNil)))) aNil))) (bSeq (sSet 3 (eD listP (aCons (eVo 1) aNil))) (bSeq (sFor (iR rng1 (aCons (eVo 2) aNil)) (gN 4) (bSeq (sSet 3 (eLc [5] (iS (eV 3)) (gN 5) cYes (e2 fdivP (eVo 5) (eVo 0)))) bNil)) (bSeq (sRet (eD tupP (aCons (eV 2) (aCons (eV 3) aNil)))) bNil))))
noncomputable def F_lifted : List PV → R PV := runF 6 D_lifted
noncomputable def D_one_on : Rho → Out := (bSeq (sSet 3 (eC (.int 1))) (bSeq (sSetO 4 (eD lstP aNil)) (bSeq (sFor (iS (eD F_shifted (aCons (eV 1) (aCons (eV 2) aNil)))) (gN 5) (bSeq (sMut 4 appP (e2 mulP (eVo 5) (eVo 3))) (bSeq (sAug 3 mulP (eVo 0)) bNil))) (sFrz 4 (bSeq (sRet (eD F_lifted (aCons (eV 0) (aCons (eV 4) aNil)))) bNil)))))
noncomputable def F_one_on : List PV → R PV := runF 6 D_one_on
noncomputable def D_seen_from : Rho → Out := (bSeq (sTo (gT (gsCons (gN 3) (gsCons (gN 4) gsNil))) (eD F_lifted (aCons (eV 0) (aCons (eV 1) aNil)))) (bSeq (sFor (iS (eV 2)) (gN 5) (bSeq (sTo (gT (gsCons (gN 6) (gsCons (gN 4) gsNil))) (eD F_one_on (aCons (eV 0) (aCons (eV 4) (aCons (eV 5) aNil))))) (bSeq (sAug 3 (intP (fun _ _ => true) fun a b => .int (a + b)) (eVo 6)) bNil))) (bSeq (sRet (eD tupP (aCons (eV 3) (aCons (eV 4) aNil)))) bNil)))
noncomputable def F_seen_from : List PV → R PV := runF 7 D_seen_from
noncomputable def D_whole_worth : Rho → Out := (bSeq (sSet 2 (eC (.int 0))) (bSeq (sFor (iRv (eV 0)) (gN 3) (bSeq (sSet 2 (e2 addP (e2 mulP (eVo 2) (eVo 1)) (eVo 3))) bNil)) (bSeq (sRet (eV 2)) bNil)))
noncomputable def F_whole_worth : List PV → R PV := runF 4 D_whole_worth
noncomputable def D_word_of : Rho → Out := (bSeq (sIf (tB1 (e2 neP (e2 modP (eD F_whole_worth (aCons (eV 1) (aCons (eV 2) aNil))) (eVo 0)) (eC (.int 0)))) (bSeq (sRet (eC (.str "none"))) bNil) bNil) (bSeq (sIf (tB1 (e2 neP (e2 modP (eD F_whole_worth (aCons (eD F_slope_of (aCons (eV 1) aNil)) (aCons (eV 2) aNil))) (eVo 0)) (eC (.int 0)))) (bSeq (sRet (eC (.str "one"))) bNil) bNil) (bSeq (sRet (eC (.str "on"))) bNil)))
noncomputable def F_word_of : List PV → R PV := runF 3 D_word_of
noncomputable def D_is_stem : Rho → Out := (bSeq (sIf (tOr' (tNt (tB1 (e1 (isiP "tuple") (eVo 1)))) (tOr' (tB1 (e2 ltP (eD lenP (aCons (eVo 1) aNil)) (eC (.int 1)))) (tB1 (e2 gtP (eD lenP (aCons (eVo 1) aNil)) (eC (.int 12)))))) (bSeq (sRet (eC (.bl false))) bNil) bNil) (bSeq (sRet (eD allP (aCons (eLc [2] (iS (eV 1)) (gN 2) cYes (eAn (eD F_is_whole (aCons (eV 2) aNil)) (eChain leP ltP (eC (.int 0)) (eVo 2) (eVo 0)))) aNil))) bNil))
noncomputable def F_is_stem : List PV → R PV := runF 3 D_is_stem
noncomputable def D_rise_of : Rho → Out := (bSeq (sIf (tNt (tB1 (eD F_is_stem (aCons (eV 0) (aCons (eV 2) aNil))))) (bSeq (sRaise "NoRoot") bNil) bNil) (bSeq (sTo (gT (gsCons (gN 3) (gsCons (gN 4) gsNil))) (eD F_seen_from (aCons (eV 0) (aCons (eV 1) (aCons (eD tupP aNil) aNil))))) (bSeq (sFor (iS (eSl slP (eVo 2) oNone (oSome (e1 negP (eC (.int 1)))))) (gN 5) (bSeq (sIf (tB1 (e2 neP (eD F_word_of (aCons (eV 0) (aCons (eV 4) (aCons (eV 5) aNil)))) (eC (.str "on")))) (bSeq (sRaise "NoRoot") bNil) bNil) (bSeq (sTo (gT (gsCons (gN 6) (gsCons (gN 4) gsNil))) (eD F_one_on (aCons (eV 0) (aCons (eV 4) (aCons (eV 5) aNil))))) (bSeq (sAug 3 (intP (fun _ _ => true) fun a b => .int (a + b)) (eVo 6)) bNil)))) (bSeq (sIf (tB1 (e2 neP (eD F_word_of (aCons (eV 0) (aCons (eV 4) (aCons (e2 ixP (eVo 2) (e1 negP (eC (.int 1)))) aNil)))) (eC (.str "one")))) (bSeq (sRaise "NoRoot") bNil) bNil) (bSeq (sRet (e2 addP (e2 subP (eVo 3) (eD lenP (aCons (eVo 2) aNil))) (eC (.int 1)))) bNil)))))
noncomputable def F_rise_of : List PV → R PV := runF 7 D_rise_of
noncomputable def D_undone : Rho → Out := (bSeq (sFor (iR rng2 (aCons (eC (.int 1)) (aCons (eVo 0) aNil))) (gN 2) (bSeq (sIf (tB1 (e2 eqP (e2 modP (e2 mulP (eVo 2) (eVo 1)) (eVo 0)) (eC (.int 1)))) (bSeq (sRet (eV 2)) bNil) bNil) bNil)) (bSeq (sRet (eC (.int 0))) bNil))
noncomputable def F_undone : List PV → R PV := runF 3 D_undone
noncomputable def D_root_of : Rho → Out := (bSeq (sIf (tNt (tB1 (eD F_is_prime (aCons (eV 0) aNil)))) (bSeq (sRaise "NoPrime") bNil) bNil) (bSeq (sDrop (eD F_want_poly (aCons (eV 1) aNil))) (bSeq (sSet 4 (eD F_rise_of (aCons (eV 0) (aCons (eV 1) (aCons (eV 2) aNil))))) (bSeq (sIf (tOr' (tNt (tB1 (eD F_is_whole (aCons (eV 3) aNil)))) (tOr' (tB1 (e2 ltP (eVo 3) (eD lenP (aCons (eVo 2) aNil)))) (tB1 (e2 gtP (eVo 3) (eC (.int 400)))))) (bSeq (sRaise "NoPlace") bNil) bNil) (bSeq (sSet 5 (eC (.int 0))) (bSeq (sSet 6 (eC (.int 1))) (bSeq (sFor (iS (eV 2)) (gN 7) (bSeq (sAug 5 (intP (fun _ _ => true) fun a b => .int (a + b)) (e2 mulP (eVo 7) (eVo 6))) (bSeq (sAug 6 mulP (eVo 0)) bNil))) (bSeq (sSet 8 (eC (.int 1))) (bSeq (sFor (iR rng1 (aCons (eVo 4) aNil)) (gN 9) (bSeq (sAug 8 mulP (eVo 0)) bNil)) (bSeq (sSet 10 (eD F_undone (aCons (eV 0) (aCons (e2 fdivP (eD F_whole_worth (aCons (eD F_slope_of (aCons (eV 1) aNil)) (aCons (eV 5) aNil))) (eVo 8)) aNil)))) (bSeq (sFor (iR rng2 (aCons (eD lenP (aCons (eVo 2) aNil)) (aCons (eVo 3) aNil))) (gN 9) (bSeq (sAug 5 (intP (fun _ _ => true) fun a b => .int (a + b)) (e2 mulP (e2 modP (e2 mulP (e1 negP (e2 fdivP (eD F_whole_worth (aCons (eV 1) (aCons (eV 5) aNil))) (e2 mulP (eVo 8) (eVo 6)))) (eVo 10)) (eVo 0)) (eVo 6))) (bSeq (sAug 6 mulP (eVo 0)) bNil))) (bSeq (sRet (eD F_of_whole (aCons (eV 0) (aCons (eC (.int 0)) (aCons (eV 5) (aCons (eV 3) aNil)))))) bNil))))))))))))
noncomputable def F_root_of : List PV → R PV := runF 11 D_root_of
noncomputable def D_points_of : Rho → Out := (bSeq (sIf (tNt (tB1 (eD F_is_prime (aCons (eV 0) aNil)))) (bSeq (sRaise "NoPrime") bNil) bNil) (bSeq (sIf (tNt (tB1 (eD F_is_poly (aCons (eV 1) aNil)))) (bSeq (sRaise "NoPolynomial") bNil) bNil) (bSeq (sRet (eLc [2, 3] (iEn (eV 1)) (gT (gsCons (gN 2) (gsCons (gN 3) gsNil))) (tB1 (e2 neP (eVo 3) (eC (.int 0)))) (eD tupP (aCons (eV 2) (aCons (eD F_exponent (aCons (eV 0) (aCons (eV 3) aNil))) aNil))))) bNil)))
noncomputable def F_points_of : List PV → R PV := runF 4 D_points_of
noncomputable def D_is_needless : Rho → Out := (bSeq (sRet (e2 geP (e2 mulP (e2 subP (e2 ixP (eVo 1) (eC (.int 1))) (e2 ixP (eVo 0) (eC (.int 1)))) (e2 subP (e2 ixP (eVo 2) (eC (.int 0))) (e2 ixP (eVo 0) (eC (.int 0))))) (e2 mulP (e2 subP (e2 ixP (eVo 2) (eC (.int 1))) (e2 ixP (eVo 0) (eC (.int 1)))) (e2 subP (e2 ixP (eVo 1) (eC (.int 0))) (e2 ixP (eVo 0) (eC (.int 0))))))) bNil)
noncomputable def F_is_needless : List PV → R PV := runF 3 D_is_needless
noncomputable def D_corners_of : Rho → Out := (bSeq (sSetO 2 (eD lstP aNil)) (bSeq (sFor (iS (eD F_points_of (aCons (eV 0) (aCons (eV 1) aNil)))) (gN 3) (bSeq (sWh (tAn (tB1 (e2 gtP (eD lenP (aCons (eVo 2) aNil)) (eC (.int 1)))) (tB1 (eD F_is_needless (aCons (e2 ixP (eVo 2) (e1 negP (eC (.int 2)))) (aCons (e2 ixP (eVo 2) (e1 negP (eC (.int 1)))) (aCons (eV 3) aNil)))))) (bSeq (sMut0 2 popP) bNil)) (bSeq (sMut 2 appP (eV 3)) bNil))) (bSeq (sRetO 2) bNil)))
noncomputable def F_corners_of : List PV → R PV := runF 4 D_corners_of
noncomputable def D_sizes_of : Rho → Out := (bSeq (sSet 2 (eD F_corners_of (aCons (eV 0) (aCons (eV 1) aNil)))) (bSeq (sSetO 3 (eD lstP aNil)) (bSeq (sFor (iR rng3 (aCons (e2 subP (eD lenP (aCons (eVo 2) aNil)) (eC (.int 1))) (aCons (eC (.int 0)) (aCons (e1 negP (eC (.int 1))) aNil)))) (gN 4) (bSeq (sTo (gT (gsCons (gN 5) (gsCons (gN 6) gsNil))) (e2 ixP (eVo 2) (e2 subP (eVo 4) (eC (.int 1))))) (bSeq (sTo (gT (gsCons (gN 7) (gsCons (gN 8) gsNil))) (e2 ixP (eVo 2) (eVo 4))) (bSeq (sMut 3 appP (eD tupP (aCons (eD F_fraction (aCons (e2 subP (eVo 6) (eVo 8)) (aCons (e2 subP (eVo 7) (eVo 5)) aNil))) (aCons (e2 subP (eVo 7) (eVo 5)) aNil)))) bNil)))) (sFrz 3 (bSeq (sRet (eD tupP (aCons (e2 ixP (e2 ixP (eVo 2) (eC (.int 0))) (eC (.int 0))) (aCons (eV 3) aNil)))) bNil)))))
noncomputable def F_sizes_of : List PV → R PV := runF 9 D_sizes_of
noncomputable def D_turned : Rho → Out := (bSeq (sSet 2 (eD tupP (aCons (eV 1) (aCons (eC (.int 0)) aNil)))) (bSeq (sSet 3 (eD tupP (aCons (e2 modP (eVo 0) (eVo 1)) (aCons (eC (.int 1)) aNil)))) (bSeq (sWh (tB1 (e2 gtP (e2 ixP (eVo 3) (eC (.int 0))) (eC (.int 0)))) (bSeq (sSet 4 (e2 fdivP (e2 ixP (eVo 2) (eC (.int 0))) (e2 ixP (eVo 3) (eC (.int 0))))) (bSeq (sPar 2 3 (aCons (eV 3) (aCons (eD tupP (aCons (e2 subP (e2 ixP (eVo 2) (eC (.int 0))) (e2 mulP (eVo 4) (e2 ixP (eVo 3) (eC (.int 0))))) (aCons (e2 subP (e2 ixP (eVo 2) (eC (.int 1))) (e2 mulP (eVo 4) (e2 ixP (eVo 3) (eC (.int 1))))) aNil))) aNil))) bNil))) (bSeq (sRet (e2 modP (e2 ixP (eVo 2) (eC (.int 1))) (eVo 1))) bNil))))
noncomputable def F_turned : List PV → R PV := runF 5 D_turned
end PM
set_option Elab.async false
set_option linter.all false
set_option maxRecDepth 100000
set_option autoImplicit false
namespace PM
open PySem PySem.Spec L2 PL
open PyProof.Rows hiding St
theorem f_is_whole (p : PV) : F_is_whole [p] = .ok (.bl (isW p)) := by
  show (D_is_whole [.val p]).res = _
  simp [D_is_whole, whole_eq]
def primesL : List Int := [2, 3, 5, 7, 11, 13, 17, 19, 23, 29, 31, 37, 41, 43, 47, 53, 59, 61, 67, 71, 73, 79, 83, 89, 97]
def isP (p : PV) : Bool := match p with
  | .int n => decide (n ∈ primesL)
  | _ => false
def primesN : List Nat := [2, 3, 5, 7, 11, 13, 17, 19, 23, 29, 31, 37, 41, 43, 47, 53, 59, 61, 67, 71, 73, 79, 83, 89, 97]
theorem primes_tab : ((List.range 98).all fun k => (!decide (2 ≤ k)) || (((List.range (k - 2)).all fun i => !(k % (2 + i) == 0)) == primesN.contains k)) = true := by decide +kernel
theorem primes_by (k : Nat) (hk : k < 98) (h2 : 2 ≤ k) : ((List.range (k - 2)).map fun (i : Nat) => (!(((k : Int) % ((2 : Int) + (i : Int))) == 0))).all id = decide ((k : Int) ∈ primesL) := by
  have h := List.all_eq_true.mp primes_tab k (List.mem_range.mpr hk)
  rw [decide_eq_true h2, Bool.not_true, Bool.false_or, beq_iff_eq] at h
  have e1 : (fun (i : Nat) => (!(((k : Int) % ((2 : Int) + (i : Int))) == 0))) = fun i => !(k % (2 + i) == 0) := by
    funext i
    rw [show ((2 : Int) + (i : Int)) = ((2 + i : Nat) : Int) by omega, ← Int.natCast_emod]
    congr 1
    rw [Bool.eq_iff_iff, beq_iff_eq, beq_iff_eq]
    omega
  rw [e1, List.all_map]
  show ((List.range (k - 2)).all fun i => !(k % (2 + i) == 0)) = _
  rw [h, List.contains_eq_mem]
  have e2 : primesL = primesN.map fun (n : Nat) => (n : Int) := rfl
  rw [Bool.eq_iff_iff, decide_eq_true_eq, decide_eq_true_eq, e2, List.mem_map]
  constructor
  · exact fun z => ⟨k, z, rfl⟩
  · rintro ⟨n, z, e⟩
    rw [show k = n by omega]; exact z
theorem primesL_le : ∀ n ∈ primesL, 2 ≤ n ∧ n ≤ 97 := by decide
def neM (k : Int) : PV → PV
  | .int i => .bl (!((k % i) == 0))
  | _ => .non
theorem prime_hr (k : Nat) (hk : k < 98) (h2 : 2 ≤ k) : iR rng2 (aCons (eC (.int 2)) (aCons (eVo 0) aNil)) [.val (.int (k : Int)), .un] = .ok (rngL 2 (k - 2)) := by
  simp only [iR_eq, aCons_eq, eC_eq, bind1, eVo0, aNil_eq]
  rw [rng2_sm (by omega) (by omega) (by omega) (by omega)]
  rw [show ((k : Int) - 2).toNat = k - 2 by omega]
theorem prime_hm (k : Nat) : lcGo (gN 1) cYes (e2 neP (e2 modP (eVo 0) (eVo 1)) (eC (.int 0))) [.val (.int (k : Int)), .un] (rngL 2 (k - 2)) = .ok ((rngL 2 (k - 2)).map (neM k)) :=
  lcGo_map _ _ fun q hq => by
    unfold rngL at hq
    obtain ⟨i, hi, rfl⟩ := List.mem_map.mp hq
    refine ⟨_, rfl, ?_⟩
    simp only [e2_eq, eVo0, bind1, List.set_cons_succ, List.set_cons_zero, eVos, eC_eq]
    rw [modP_pos (by omega)]
    simp [neM]
theorem prime_map (k : Nat) : (rngL 2 (k - 2)).map (neM k) = (((List.range (k - 2)).map fun (i : Nat) => (!(((k : Int) % ((2 : Int) + (i : Int))) == 0)))).map PV.bl := by
  unfold rngL
  rw [List.map_map, List.map_map]
  rfl
theorem allP_bl (bs : List Bool) : allP [.lst (bs.map PV.bl)] = .ok (.bl (bs.all id)) := by
  unfold allP
  dsimp only
  rw [asBs_of]
def primeBs (k : Nat) : List Bool := (List.range (k - 2)).map fun (i : Nat) => (!(((k : Int) % ((2 : Int) + (i : Int))) == 0))
theorem prime_he (k : Nat) (hk : k < 98) (h2 : 2 ≤ k) : eLc [1] (iR rng2 (aCons (eC (.int 2)) (aCons (eVo 0) aNil))) (gN 1) cYes (e2 neP (e2 modP (eVo 0) (eVo 1)) (eC (.int 0))) [.val (.int (k : Int)), .un] = .ok (.lst ((primeBs k).map PV.bl)) := by
  rw [eLc_ok (vs := [1]) (test := cYes) (ρ := [.val (.int (k : Int)), .un]) rfl (prime_hr k hk h2) (by rw [rngL_len]; omega) (prime_hm k), prime_map]
  rfl
theorem f_is_prime (p : PV) : F_is_prime [p] = .ok (.bl (isP p)) := by
  show (D_is_prime [.val p, .un]).res = _
  by_cases hw : isW p = true
  · cases p with
    | int n =>
      by_cases h2 : n < 2
      · have : ¬ n ∈ primesL := fun h => by have := primesL_le n h; omega
        simp [D_is_prime, f_is_whole, isW, h2, isP, this]
      · by_cases h97 : 97 < n
        · have : ¬ n ∈ primesL := fun h => by have := primesL_le n h; omega
          simp [D_is_prime, f_is_whole, isW, h2, h97, isP, this]
        · obtain ⟨k, rfl⟩ : ∃ k : Nat, n = (k : Int) := ⟨n.toNat, by omega⟩
          unfold D_is_prime
          have hb : (primeBs k).all id = decide ((k : Int) ∈ primesL) := primes_by k (by omega) (by omega)
          simp [D_is_prime, f_is_whole, isW, h2, h97, isP, prime_he k (by omega) (by omega), allP_bl, hb]
    | _ => simp [isW] at hw
  · have hw' : isW p = false := by cases h : isW p <;> simp_all
    have hp : isP p = false := by cases p <;> simp_all [isP, isW]
    simp [D_is_prime, f_is_whole, hw', hp]
theorem f_exponent (p m : Int) (hp : 2 ≤ p) (hp2 : p < 2 ^ 8000) (hm : m % p ≠ 0) (k : Nat) : F_exponent [.int p, .int (m * p ^ k)] = .ok (.int k) := by
  have turn : ∀ k : Nat, divmodP [.int (m * p ^ k), .int p] = .ok (.tup [.int (m * p ^ k / p), .int (m * p ^ k % p)]) := fun k => divmodP_pos (by omega) (by omega)
  have up : ∀ k : Nat, m * p ^ (k + 1) / p = m * p ^ k ∧ m * p ^ (k + 1) % p = 0 := fun k => by
    rw [Int.pow_succ, ← Int.mul_assoc]
    exact ⟨Int.mul_ediv_cancel _ (by omega), Int.mul_emod_left _ _⟩
  have run : ∀ (j : Nat) (c : Int) (a : PV), sWh (tB1 (e2 eqP (eVo 4) (eC (.int 0)))) (bSeq (sAug 2 (intP (fun _ _ => true) fun a b => .int (a + b)) (eC (.int 1))) (bSeq (sTo (gT (gsCons (gN 3) (gsCons (gN 4) gsNil))) (eD divmodP (aCons (eVo 3) (aCons (eVo 0) aNil)))) bNil))
      [.val (.int p), .val a, .val (.int c), .val (.int (m * p ^ j / p)), .val (.int (m * p ^ j % p))] = .next [.val (.int p), .val a, .val (.int (c + j)), .val (.int (m / p)), .val (.int (m % p))] := by
    intro j
    induction j with
    | zero =>
      intro c a
      have hm' : (m % p == 0) = false := by simpa using hm
      rw [sWh_eq]
      simp [hm']
    | succ j ih =>
      intro c a
      rw [sWh_eq, (up j).1, (up j).2]
      simp [turn, ih]
      omega
  show (D_exponent [.val (.int p), .val (.int (m * p ^ k)), .un, .un, .un]).res = _
  simp [D_exponent, turn, run]
end PM
set_option Elab.async false
set_option linter.all false
set_option maxRecDepth 100000
set_option autoImplicit false
namespace PM
open PySem PySem.Spec L2 PL
open PyProof.Rows hiding St
theorem isi_lt (p : PV) : isiP2 "list" "tuple" p = .ok (.bl (isL p || isT p)) := by
  have e1 : kitB "NoneType" "list" = some false := by decide +kernel
  have e2 : kitB "bool" "list" = some false := by decide +kernel
  have e3 : kitB "int" "list" = some false := by decide +kernel
  have e4 : kitB "str" "list" = some false := by decide +kernel
  have e5 : kitB "tuple" "list" = some false := by decide +kernel
  have e6 : kitB "list" "list" = some true := by decide +kernel
  have e7 : kitB "dict" "list" = some false := by decide +kernel
  have d1 : kitB "NoneType" "tuple" = some false := by decide +kernel
  have d2 : kitB "bool" "tuple" = some false := by decide +kernel
  have d3 : kitB "int" "tuple" = some false := by decide +kernel
  have d4 : kitB "str" "tuple" = some false := by decide +kernel
  have d5 : kitB "tuple" "tuple" = some true := by decide +kernel
  have d6 : kitB "list" "tuple" = some false := by decide +kernel
  have d7 : kitB "dict" "tuple" = some false := by decide +kernel
  cases p <;> simp [isiP2, kitP, tyN, e1, e2, e3, e4, e5, e6, e7, d1, d2, d3, d4, d5, d6, d7, isL, isT]
def R.own (r : R (List PV)) (ρ : Rho) (i : Nat) : Out := match r with
  | .ok qs => .next (ρ.set i (.own qs))
  | _ => .stuck
@[simp] theorem own_ok {qs : List PV} {ρ : Rho} {i : Nat} : R.own (.ok qs) ρ i = .next (ρ.set i (.own qs)) := nr rfl
def getOwn (ρ : Rho) (i : Nat) : Option (List PV) := match ρ[i]? with
  | some (.own ps) => some ps
  | _ => none
@[simp] theorem getOwn0 {ps : List PV} {ρ : Rho} : getOwn (.own ps :: ρ) 0 = some ps := nr rfl
@[simp] theorem getOwnS {s : Slot} {ρ : Rho} {i : Nat} : getOwn (s :: ρ) (i + 1) = getOwn ρ i := by simp [getOwn]
def onOwn (o : Option (List PV)) (k : List PV → Out) : Out := match o with
  | some ps => k ps
  | none => .stuck
@[simp] theorem onOwn_some {ps : List PV} {k : List PV → Out} : onOwn (some ps) k = k ps := nr rfl
@[simp] theorem sMut_eq {i : Nat} {g : List PV → PV → R (List PV)} {f : Rho → R PV} {ρ : Rho} : sMut i g f ρ = onOwn (getOwn ρ i) fun ps => (f ρ).st ρ fun p => R.own (g ps p) ρ i := by
  unfold sMut getOwn
  cases ρ[i]? with
  | none => rfl
  | some t => cases t <;> rfl
def asL : PV → R (List PV)
  | .lst l => .ok l
  | _ => .stuck
@[simp] theorem asL_l {l : List PV} : asL (.lst l) = .ok l := nr rfl
@[simp] theorem sSetO_eq {i : Nat} {f : Rho → R PV} {ρ : Rho} : sSetO i f ρ = (f ρ).st ρ fun p => R.own (asL p) ρ i := by
  unfold sSetO sE R.st R.own asL
  cases f ρ with
  | ok p => cases p <;> rfl
  | exc c => rfl
  | stuck => rfl
@[simp] theorem sRetO_eq {i : Nat} {ρ : Rho} : sRetO i ρ = onOwn (getOwn ρ i) fun ps => .ret (.lst ps) := by
  unfold sRetO getOwn
  cases ρ[i]? with
  | none => rfl
  | some t => cases t <;> rfl
def frzR (ρ : Rho) (i : Nat) : Rho := match ρ[i]? with
  | some (.own ps) => ρ.set i (.val (.lst ps))
  | _ => ρ
@[simp] theorem frzR0 {ps : List PV} {ρ : Rho} : frzR (.own ps :: ρ) 0 = .val (.lst ps) :: ρ := nr rfl
@[simp] theorem frzR0v {p : PV} {ρ : Rho} : frzR (.val p :: ρ) 0 = .val p :: ρ := nr rfl
@[simp] theorem frzR0u {ρ : Rho} : frzR (.un :: ρ) 0 = .un :: ρ := nr rfl
@[simp] theorem frzRS {s : Slot} {ρ : Rho} {i : Nat} : frzR (s :: ρ) (i + 1) = s :: frzR ρ i := by
  unfold frzR
  rw [List.getElem?_cons_succ]
  cases ρ[i]? with
  | none => rfl
  | some t => cases t <;> rfl
@[simp] theorem sFrz_eq {i : Nat} {g : Rho → Out} {ρ : Rho} : sFrz i g ρ = g (frzR ρ i) := by
  unfold sFrz frzR
  cases ρ[i]? with
  | none => rfl
  | some t => cases t <;> rfl
theorem appP_ok {l : List PV} {p : PV} (h : l.length < 1000000) : appP l p = .ok (l ++ [p]) := by
  unfold appP
  rw [if_pos (Nat.lt_of_lt_of_le h (size_ok (Nat.le_refl _)))]
@[simp] theorem sSetI_eq {i : Nat} {f fi : Rho → R PV} {ρ : Rho} : sSetI i f fi ρ = onOwn (getOwn ρ i) fun ps => (f ρ).st ρ fun p => (fi ρ).st ρ fun q => R.own (setP ps p q) ρ i := by
  unfold sSetI getOwn
  cases ρ[i]? with
  | none => rfl
  | some t => cases t <;> rfl
theorem setP_ok {l : List PV} {p : PV} {k : Int} (h : 0 ≤ k) (h2 : k < l.length) : setP l p (.int k) = .ok (l.set k.toNat p) := by
  unfold setP ixN
  dsimp only
  rw [if_pos h, if_pos h2]
def Out.fo (o : Out) (k : Rho → Out) : Out := match o with
  | .next ρ => k ρ
  | .cont ρ => k ρ
  | .brk ρ => .next ρ
  | o => o
@[simp] theorem fo_next {ρ : Rho} {k : Rho → Out} : Out.fo (.next ρ) k = k ρ := nr rfl
@[simp] theorem fo_cont {ρ : Rho} {k : Rho → Out} : Out.fo (.cont ρ) k = k ρ := nr rfl
@[simp] theorem fo_brk {ρ : Rho} {k : Rho → Out} : Out.fo (.brk ρ) k = .next ρ := nr rfl
@[simp] theorem fo_ret {p : PV} {k : Rho → Out} : Out.fo (.ret p) k = .ret p := nr rfl
@[simp] theorem fo_exc {c : Str} {ρ : Rho} {k : Rho → Out} : Out.fo (.exc c ρ) k = .exc c ρ := nr rfl
@[simp] theorem forL_nil {tgt : PV → Rho → Option Rho} {body : Rho → Out} {ρ : Rho} : forL tgt body [] ρ = .next ρ := nr rfl
def onR (o : Option Rho) (k : Rho → Out) : Out := match o with
  | some ρ => k ρ
  | none => .stuck
@[simp] theorem onR_some {ρ : Rho} {k : Rho → Out} : onR (some ρ) k = k ρ := nr rfl
theorem forL_cons {tgt : PV → Rho → Option Rho} {body : Rho → Out} {p : PV} {ps : List PV} {ρ : Rho} : forL tgt body (p :: ps) ρ = onR (tgt p ρ) fun ρ1 => Out.fo (body ρ1) (forL tgt body ps) := by
  show (match tgt p ρ with | none => Out.stuck | some ρ1 => match body ρ1 with | .next ρ' => forL tgt body ps ρ' | .cont ρ' => forL tgt body ps ρ' | .brk ρ' => .next ρ' | o => o) = _
  unfold onR Out.fo
  cases tgt p ρ with
  | none => rfl
  | some ρ1 => cases body ρ1 <;> rfl
theorem cut_map {α β : Type} (f : α → β) (l : List α) (lo hi : Option Int) : cutG (l.map f) lo hi = (cutG l lo hi).map f := by
  unfold cutG
  rw [List.length_map, List.map_take, List.map_drop]
theorem cut_len {α : Type} (l : List α) (lo hi : Option Int) : (cutG l lo hi).length ≤ l.length := by
  unfold cutG
  rw [List.length_take, List.length_drop]
  omega
theorem cut_mem {α : Type} (l : List α) (lo hi : Option Int) : ∀ a ∈ cutG l lo hi, a ∈ l := fun a h => by
  unfold cutG at h
  exact (List.drop_sublist _ _).subset ((List.take_sublist _ _).subset h)
theorem sIx_none (n k : Nat) : HT.sIx n k none = k := rfl
theorem cut_drop {α : Type} (l : List α) (k : Int) (h : 0 ≤ k) : cutG l (some k) none = l.drop k.toNat := by
  unfold cutG
  have e : HT.sIx l.length 0 (some k) = min k.toNat l.length := by
    unfold HT.sIx; dsimp only; rw [if_neg (by omega)]
  rw [e, sIx_none]
  rw [List.take_of_length_le (by rw [List.length_drop]; omega)]
  by_cases h2 : k.toNat ≤ l.length
  · rw [Nat.min_eq_left h2]
  · rw [Nat.min_eq_right (by omega), List.drop_eq_nil_of_le (Nat.le_refl _), List.drop_eq_nil_of_le (by omega)]
theorem cut_take {α : Type} (l : List α) (k : Int) (h : 0 ≤ k) : cutG l none (some k) = l.take k.toNat := by
  unfold cutG
  have e : HT.sIx l.length l.length (some k) = min k.toNat l.length := by
    unfold HT.sIx; dsimp only; rw [if_neg (by omega)]
  rw [e, sIx_none, List.drop_zero, Nat.sub_zero]
  by_cases h2 : k.toNat ≤ l.length
  · rw [Nat.min_eq_left h2]
  · rw [Nat.min_eq_right (by omega), List.take_of_length_le (Nat.le_refl _), List.take_of_length_le (by omega)]
theorem cut_both {α : Type} (l : List α) (j k : Int) (h : 0 ≤ j) (hk : j ≤ k) : cutG l (some j) (some k) = (l.drop j.toNat).take (k.toNat - j.toNat) := by
  unfold cutG
  have e : HT.sIx l.length l.length (some k) = min k.toNat l.length := by
    unfold HT.sIx; dsimp only; rw [if_neg (by omega)]
  have e2 : HT.sIx l.length 0 (some j) = min j.toNat l.length := by
    unfold HT.sIx; dsimp only; rw [if_neg (by omega)]
  rw [e, e2]
  by_cases h2 : j.toNat ≤ l.length
  · rw [Nat.min_eq_left h2]
    by_cases h3 : k.toNat ≤ l.length
    · rw [Nat.min_eq_left h3]
    · rw [Nat.min_eq_right (by omega), List.take_of_length_le (by rw [List.length_drop]; omega), List.take_of_length_le (by rw [List.length_drop]; omega)]
  · rw [Nat.min_eq_right (by omega : l.length ≤ j.toNat), List.drop_eq_nil_of_le (Nat.le_refl _), List.drop_eq_nil_of_le (by omega), List.take_nil, List.take_nil]
@[simp] theorem eSl_eq {g : PV → Option Int → Option Int → R PV} {f : Rho → R PV} {lo hi : Rho → R (Option Int)} {ρ : Rho} : eSl g f lo hi ρ = (f ρ).bind fun p => (lo ρ).bind fun l => (hi ρ).bind fun h => g p l h := nr rfl
@[simp] theorem oNone_eq {ρ : Rho} : oNone ρ = .ok none := nr rfl
@[simp] theorem oSome_eq {f : Rho → R PV} {ρ : Rho} : oSome f ρ = (f ρ).bind fun p => (asI p).bind fun i => .ok (some i) := nr rfl
@[simp] theorem slP_l {l : List PV} {lo hi : Option Int} : slP (.lst l) lo hi = .ok (.lst (cutG l lo hi)) := nr rfl
@[simp] theorem slP_f {l : List PV} {lo hi : Option Int} : slP (.frz l) lo hi = .ok (.lst (cutG l lo hi)) := nr rfl
@[simp] theorem slP_t {l : List PV} {lo hi : Option Int} : slP (.tup l) lo hi = .ok (.tup (cutG l lo hi)) := nr rfl
@[simp] theorem slL_l {l : List PV} {lo hi : Option Int} : slL (.lst l) lo hi = .ok (.lst (cutG l lo hi)) := nr rfl
@[simp] theorem tupleP_l {l : List PV} : tupleP [.lst l] = .ok (.tup l) := nr rfl
@[simp] theorem tupleP_t {l : List PV} : tupleP [.tup l] = .ok (.tup l) := nr rfl
@[simp] theorem tupleP_f {l : List PV} : tupleP [.frz l] = .ok (.tup l) := nr rfl
@[simp] theorem listP_l {l : List PV} : listP [.lst l] = .ok (.lst l) := nr rfl
@[simp] theorem listP_t {l : List PV} : listP [.tup l] = .ok (.lst l) := nr rfl
theorem addP_ok {a b : List PV} (h : a.length + b.length ≤ 1000000) : addP (.lst a) (.lst b) = .ok (.lst (a ++ b)) := by
  unfold addP; dsimp only; rw [if_pos (size_ok h)]
def figOk (p : Int) : PV → Bool
  | .int n => decide (0 ≤ n) && decide (n < p)
  | _ => false
theorem figs_map (p : Int) (l : List PV) (x s : PV) : lcGo (gN 2) cYes (eAn (eD F_is_whole (aCons (eV 2) aNil)) (eChain leP ltP (eC (.int 0)) (eVo 2) (eVo 0))) [.val (.int p), .val x, .un] l = .ok ((l.map (figOk p)).map PV.bl) := by
  rw [List.map_map]
  refine lcGo_map (fun q => PV.bl (figOk p q)) l fun q hq => ⟨_, rfl, ?_⟩
  cases q with
  | int n =>
    by_cases h : 0 ≤ n <;> simp [f_is_whole, figOk, h]
  | _ => simp [f_is_whole, figOk, isW]
theorem all_map (p : Int) (l : List PV) : (l.map (figOk p)).all id = l.all (figOk p) := by rw [List.all_map]; rfl
theorem f_are_l (p : Int) (l : List PV) (h : l.length ≤ 1000000) : F_are_figures [.int p, .lst l] = .ok (.bl (l.all (figOk p))) := by
  show (D_are_figures [.val (.int p), .val (.lst l), .un]).res = _
  have e := eLc_ok (vs := [2]) (it := iS (eV 1)) (ρ := [.val (.int p), .val (.lst l), .un]) rfl (by simp) h (figs_map p l (.lst l) .non)
  simp only [D_are_figures, bSeq_eq, sIf_eq, tNt_eq, tB1_eq, e1_eq, eVos, eVo0, bind1, isi_lt, isL, Bool.true_or, asB_eq, Bool.not_true, stB_ok, bNil_eq, if_neg Bool.false_ne_true, then_next, sRet_eq, eD_eq, aCons_eq, aNil_eq, e, allP_bl, all_map, st_ok, then_ret, res_ret]
theorem f_are_t (p : Int) (l : List PV) (h : l.length ≤ 1000000) : F_are_figures [.int p, .tup l] = .ok (.bl (l.all (figOk p))) := by
  show (D_are_figures [.val (.int p), .val (.tup l), .un]).res = _
  have e := eLc_ok (vs := [2]) (it := iS (eV 1)) (ρ := [.val (.int p), .val (.tup l), .un]) rfl (by simp) h (figs_map p l (.tup l) .non)
  simp only [D_are_figures, bSeq_eq, sIf_eq, tNt_eq, tB1_eq, e1_eq, eVos, eVo0, bind1, isi_lt, isL, isT, Bool.or_true, asB_eq, Bool.not_true, stB_ok, bNil_eq, if_neg Bool.false_ne_true, then_next, sRet_eq, eD_eq, aCons_eq, aNil_eq, e, allP_bl, all_map, st_ok, then_ret, res_ret]
theorem figs_all (p : Int) (ds : List Int) (h : ∀ d ∈ ds, 0 ≤ d ∧ d < p) : (ds.map PV.int).all (figOk p) = true := by
  rw [List.all_map, List.all_eq_true]
  intro d hd
  simp [figOk, h d hd]
def leftV (p e : Int) (ds : List Int) : PV := .tup [.int p, .int e, .tup (ds.map PV.int)]
def lead (ds : List Int) : Nat := (ds.takeWhile (· == 0)).length
def strip (ds : List Int) : List Int := ds.dropWhile (· == 0)
theorem strip_drop (ds : List Int) : ds.drop (lead ds) = strip ds := by
  unfold lead strip
  induction ds with
  | nil => rfl
  | cons d ds ih =>
    by_cases h : d = 0
    · subst h; simp [ih]
    · have : (d == 0) = false := by simpa using h
      simp [this]
theorem lead_le (ds : List Int) : lead ds ≤ ds.length := by
  unfold lead
  induction ds with
  | nil => simp
  | cons d ds ih => by_cases h : d = 0 <;> simp_all
theorem lead_zero (ds : List Int) : ∀ k, k < lead ds → ds.getD k 0 = 0 := by
  unfold lead
  induction ds with
  | nil => intro k h; simp at h
  | cons d ds ih =>
    intro k h
    by_cases hd : d = 0
    · subst hd
      cases k with
      | zero => rfl
      | succ k =>
        have := ih k (by simpa using h)
        simpa using this
    · have : (d == 0) = false := by simpa using hd
      simp [this] at h
theorem lead_ne (ds : List Int) (h : lead ds < ds.length) : ds.getD (lead ds) 0 ≠ 0 := by
  unfold lead at *
  induction ds with
  | nil => simp at h
  | cons d ds ih =>
    by_cases hd : d = 0
    · subst hd
      have := ih (by simpa using h)
      simpa using this
    · have h2 : (d == 0) = false := by simpa using hd
      simpa [h2] using hd
theorem strip_head (ds : List Int) : ∀ d r, strip ds = d :: r → d ≠ 0 := by
  unfold strip
  induction ds with
  | nil => intro d r h; simp at h
  | cons x xs ih =>
    intro d r h
    by_cases hx : x = 0
    · subst hx; exact ih d r (by simpa using h)
    · have h2 : (x == 0) = false := by simpa using hx
      simp [h2] at h
      rw [← h.1]; exact hx
theorem strip_mem (ds : List Int) : ∀ d ∈ strip ds, d ∈ ds := fun d h => (List.dropWhile_sublist _).subset h
theorem strip_len (ds : List Int) : (strip ds).length = ds.length - lead ds := by rw [← strip_drop, List.length_drop]
/-- the items of a written list or tuple of numbers -/
def SeqI (x : PV) (ds : List Int) : Prop := x = .lst (ds.map PV.int) ∨ x = .tup (ds.map PV.int)
theorem SeqI.ix {x : PV} {ds : List Int} (h : SeqI x ds) (k : Nat) (hk : k < ds.length) : ixP x (.int k) = .ok (.int (ds.getD k 0)) := by
  rcases h with rfl | rfl
  · exact ixP_lst (by omega) (getD_map ds _ (by omega))
  · exact ixP_tup (by omega) (getD_map ds _ (by omega))
theorem SeqI.len {x : PV} {ds : List Int} (h : SeqI x ds) : lenP [x] = .ok (.int ds.length) := by
  rcases h with rfl | rfl <;> simp
theorem SeqI.are {x : PV} {ds : List Int} (h : SeqI x ds) (p : Int) (hz : ds.length ≤ 1000000) (hd : ∀ d ∈ ds, 0 ≤ d ∧ d < p) : F_are_figures [.int p, x] = .ok (.bl true) := by
  rcases h with rfl | rfl
  · rw [f_are_l p _ (by simpa using hz), figs_all p ds hd]
  · rw [f_are_t p _ (by simpa using hz), figs_all p ds hd]
theorem SeqI.tail {x : PV} {ds : List Int} (h : SeqI x ds) (k : Nat) : ((slP x (some k) none).bind fun y => tupleP [y]) = .ok (.tup ((ds.drop k).map PV.int)) := by
  rcases h with rfl | rfl <;> simp [cut_drop]
theorem lead_run (p e : Int) (x : PV) (ds : List Int) (h : SeqI x ds) : ∀ (j k : Nat), k + j = lead ds →
    sWh (tAn (tB1 (e2 ltP (eVo 3) (eD lenP (aCons (eVo 2) aNil)))) (tB1 (e2 eqP (e2 ixP (eVo 2) (eVo 3)) (eC (.int 0))))) (bSeq (sAug 3 (intP (fun _ _ => true) fun a b => .int (a + b)) (eC (.int 1))) bNil) [.val (.int p), .val (.int e), .val x, .val (.int k)] = .next [.val (.int p), .val (.int e), .val x, .val (.int (lead ds))] := by
  intro j
  have hl := lead_le ds
  induction j with
  | zero =>
    intro k hk
    have hk' : k = lead ds := by omega
    subst hk'
    rw [sWh_eq]
    by_cases h2 : lead ds < ds.length
    · have e1 := h.ix _ h2
      have e2 : (ds.getD (lead ds) 0 == 0) = false := by simpa using lead_ne ds h2
      simp [h.len, h2, e1, -List.getD_eq_getElem?_getD, e2]
    · simp [h.len, h2]
  | succ j ih =>
    intro k hk
    rw [sWh_eq]
    have h2 : k < ds.length := by omega
    have e1 := h.ix _ h2
    rw [lead_zero ds k (by omega)] at e1
    have ih' := ih (k + 1) (by omega)
    simp [h.len, h2, e1]
    exact ih'
theorem f_left (p e : Int) (x : PV) (ds : List Int) (hp : p ∈ primesL) (h : SeqI x ds) (hz : ds.length ≤ 1000000) (hd : ∀ d ∈ ds, 0 ≤ d ∧ d < p) : F_left_number [.int p, .int e, x] = .ok (leftV p (e + lead ds) (strip ds)) := by
  show (D_left_number [.val (.int p), .val (.int e), .val x, .un]).res = _
  have hp' : isP (.int p) = true := by simp [isP, hp]
  have r := lead_run p e x ds h (lead ds) 0 (by omega)
  rw [show ((0 : Nat) : Int) = 0 from rfl] at r
  have t := h.tail (lead ds)
  rw [strip_drop] at t
  rcases h with rfl | rfl
  · simp only [slP_l, bind1] at t
    simp [D_left_number, f_is_prime, hp', f_is_whole, SeqI.are (.inl rfl) p hz hd, r, leftV, t]
  · simp only [slP_t, bind1] at t
    simp [D_left_number, f_is_prime, hp', f_is_whole, SeqI.are (.inr rfl) p hz hd, r, leftV, t]
@[simp] theorem eqP_tt0 : eqP (.tup []) (.tup []) = .ok (.bl true) := by rw [eqP_ok (by simp) (by simp)]; simp
end PM
set_option Elab.async false
set_option linter.all false
set_option maxRecDepth 100000
set_option autoImplicit false
namespace PM
open PySem PySem.Spec L2 PL
open PyProof.Rows hiding St
@[simp] theorem sPar_eq {i j : Nat} {f g : Rho → R PV} {ρ : Rho} : sPar i j (aCons f (aCons g aNil)) ρ = (f ρ).st ρ fun p => (g ρ).st ρ fun q => .next ((ρ.set i (.val p)).set j (.val q)) := by
  unfold sPar aCons R.st
  cases f ρ with
  | exc c => rfl
  | stuck => rfl
  | ok p => cases g ρ <;> rfl
@[simp] theorem absP_i {a : Int} : absP [.int a] = .ok (.int a.natAbs) := by
  have e : absP [.int a] = .ok (.int (if a < 0 then -a else a)) := rfl
  rw [e]
  congr 2
  split <;> omega
/-- Euclid's loop, on whichever test of the other one -/
theorem gcd_run (test : Rho → R Bool) (ht : ∀ x y : Nat, test [.val (.int x), .val (.int y)] = .ok (decide (y ≠ 0))) : ∀ (y x : Nat),
    sWh test (bSeq (sPar 0 1 (aCons (eV 1) (aCons (e2 modP (eVo 0) (eVo 1)) aNil))) bNil) [.val (.int x), .val (.int y)] = .next [.val (.int (Nat.gcd x y)), .val (.int 0)] := by
  intro y
  induction y using Nat.strongRecOn with
  | _ y ih =>
    intro x
    rw [sWh_eq, ht]
    by_cases h : y = 0
    · subst h; simp
    · have hy : (0 : Int) < y := by omega
      have i := ih (x % y) (Nat.mod_lt x (by omega)) y
      have e : ((x : Int) % (y : Int)) = ((x % y : Nat) : Int) := by omega
      have g : Nat.gcd y (x % y) = Nat.gcd x y := by rw [Nat.gcd_comm x y, Nat.gcd_rec y x, Nat.gcd_comm (x % y) y]
      rw [g, ← e] at i
      simp [h, modP_pos hy, i]
theorem f_divisor (a b : Int) : F_divisor [.int a, .int b] = .ok (.int (Int.gcd a b)) := by
  show (D_divisor [.val (.int a), .val (.int b)]).res = _
  have r := gcd_run (tB1 (e2 gtP (eVo 1) (eC (.int 0)))) (fun x y => by
    have q : decide ((0 : Int) < (y : Int)) = decide (y ≠ 0) := by rw [decide_eq_decide]; omega
    simp only [tB1_eq, e2_eq, eVos, eVo0, eC_eq, bind1, gtP_ii, asB_eq, q]) b.natAbs a.natAbs
  simp only [D_divisor, bSeq_eq, sSet_eq, eD_eq, aCons_eq, aNil_eq, eVo0, eVos, bind1, absP_i, st_ok, then_next, List.set_cons_succ, List.set_cons_zero, r, sRet_eq, eV0, then_ret, res_ret]
  rfl
/-- the sign and the share -/
def fs (t b : Int) : Int := if b < 0 then -(Int.gcd t b : Int) else (Int.gcd t b : Int)
def ftop (t b : Int) : Int := t / fs t b
def fbot (t b : Int) : Int := b / fs t b
def fracV (t b : Int) : PV := .tup [.int t, .int b]
theorem gcd_pos {t b : Int} (hb : b ≠ 0) : 0 < Int.gcd t b := Int.gcd_pos_of_ne_zero_right t hb
theorem fs_dvd_t (t b : Int) : fs t b ∣ t := by
  unfold fs
  split
  · exact Int.neg_dvd.mpr (Int.gcd_dvd_left t b)
  · exact Int.gcd_dvd_left t b
theorem fs_dvd_b (t b : Int) : fs t b ∣ b := by
  unfold fs
  split
  · exact Int.neg_dvd.mpr (Int.gcd_dvd_right t b)
  · exact Int.gcd_dvd_right t b
theorem fs_ne {t b : Int} (hb : b ≠ 0) : fs t b ≠ 0 := by
  have := gcd_pos (t := t) hb
  unfold fs
  split <;> omega
theorem ftop_mul (t b : Int) : ftop t b * fs t b = t := Int.ediv_mul_cancel (fs_dvd_t t b)
theorem fbot_mul (t b : Int) : fbot t b * fs t b = b := Int.ediv_mul_cancel (fs_dvd_b t b)
theorem fbot_pos {t b : Int} (hb : b ≠ 0) : 0 < fbot t b := by
  have h := fbot_mul t b
  have hg := gcd_pos (t := t) hb
  rcases Int.lt_trichotomy (fbot t b) 0 with n | z | p
  · exfalso
    unfold fs at h
    split at h
    · have := Int.mul_pos_of_neg_of_neg n (show -(Int.gcd t b : Int) < 0 by omega)
      omega
    · have := Int.mul_neg_of_neg_of_pos n (show (0 : Int) < (Int.gcd t b : Int) by omega)
      omega
  · rw [z, Int.zero_mul] at h; exact absurd h.symm hb
  · exact p
theorem fcross (t b : Int) : ftop t b * b = t * fbot t b := by
  have h1 := ftop_mul t b
  have h2 := fbot_mul t b
  calc ftop t b * b = ftop t b * (fbot t b * fs t b) := by rw [h2]
    _ = (ftop t b * fs t b) * fbot t b := by rw [Int.mul_comm (fbot t b), Int.mul_assoc]
    _ = t * fbot t b := by rw [h1]
theorem flow {t b : Int} (hb : b ≠ 0) : Int.gcd (ftop t b) (fbot t b) = 1 := by
  have h1 := ftop_mul t b
  have h2 := fbot_mul t b
  have hg := gcd_pos (t := t) hb
  have e : Int.gcd (ftop t b * fs t b) (fbot t b * fs t b) = Int.gcd (ftop t b) (fbot t b) * (fs t b).natAbs := Int.gcd_mul_right ..
  rw [h1, h2] at e
  have e2 : (fs t b).natAbs = Int.gcd t b := by unfold fs; split <;> omega
  rw [e2] at e
  have : 1 * Int.gcd t b = Int.gcd (ftop t b) (fbot t b) * Int.gcd t b := by rw [Nat.one_mul]; exact e
  exact (Nat.eq_of_mul_eq_mul_right hg this).symm
theorem f_fraction (t b : Int) (hb : b ≠ 0) (hz : b.natAbs < 2 ^ 8000) : F_fraction [.int t, .int b] = .ok (fracV (ftop t b) (fbot t b)) := by
  refine (runF_eq (n := 3) (u := D_fraction)).trans ?_
  show (D_fraction [.val (.int t), .val (.int b), .un]).res = _
  have hg := gcd_pos (t := t) hb
  have hle : Int.gcd t b ≤ b.natAbs := Nat.le_of_dvd (by omega) (Int.gcd_dvd_natAbs_right t b)
  have hb' : (b == 0) = false := by simpa using hb
  have hzs : (fs t b).natAbs < 2 ^ 9000 := by
    have : (2 : Nat) ^ 8000 ≤ 2 ^ 9000 := Nat.pow_le_pow_right (by omega) (by omega)
    unfold fs; split <;> omega
  have d1 : fdivP (.int t) (.int (fs t b)) = .ok (.int (ftop t b)) := by
    rw [fdivP_ii (fs_ne hb) hzs, Int.fdiv_eq_ediv_of_dvd (fs_dvd_t t b)]; rfl
  have d2 : fdivP (.int b) (.int (fs t b)) = .ok (.int (fbot t b)) := by
    rw [fdivP_ii (fs_ne hb) hzs, Int.fdiv_eq_ediv_of_dvd (fs_dvd_b t b)]; rfl
  by_cases h : b < 0
  · have e : fs t b = -(Int.gcd t b : Int) := by unfold fs; rw [if_pos h]
    rw [e] at d1 d2
    simp [D_fraction, f_is_whole, hb', f_divisor, h, d1, d2, fracV]
  · have e : fs t b = (Int.gcd t b : Int) := by unfold fs; rw [if_neg h]
    rw [e] at d1 d2
    simp [D_fraction, f_is_whole, hb', f_divisor, h, d1, d2, fracV]
theorem mul_lt {a b : Int} {m n : Nat} (ha : a.natAbs < 2 ^ m) (hb : b.natAbs < 2 ^ n) {k : Nat} (hk : m + n ≤ k) : (a * b).natAbs < 2 ^ k := Nat.lt_of_lt_of_le (mul_bound ha hb) (Nat.pow_le_pow_right (by omega) hk)
theorem sz_le {a : Int} {m k : Nat} (ha : a.natAbs < 2 ^ m) (hk : m ≤ k) : a.natAbs < 2 ^ k := Nat.lt_of_lt_of_le ha (Nat.pow_le_pow_right (by omega) hk)
theorem val_ex (p : Int) (hp : 2 ≤ p) : ∀ (k : Nat) (n : Int), n.natAbs ≤ k → n ≠ 0 → ∃ (m : Int) (v : Nat), n = m * p ^ v ∧ m % p ≠ 0 := by
  intro k
  induction k with
  | zero => intro n h h0; omega
  | succ k ih =>
    intro n h h0
    by_cases hd : n % p = 0
    · have e : n / p * p = n := Int.ediv_mul_cancel (Int.dvd_of_emod_eq_zero hd)
      have hn : n / p ≠ 0 := fun z => by rw [z, Int.zero_mul] at e; exact h0 e.symm
      have hlt : (n / p).natAbs < n.natAbs := by
        have : n.natAbs = (n / p).natAbs * p.natAbs := by rw [← Int.natAbs_mul, e]
        have h1 : 0 < (n / p).natAbs := by omega
        have h2 : 2 ≤ p.natAbs := by omega
        have := Nat.mul_le_mul_left (n / p).natAbs h2
        omega
      obtain ⟨m, v, e2, hm⟩ := ih (n / p) (by omega) hn
      refine ⟨m, v + 1, ?_, hm⟩
      rw [Int.pow_succ, ← Int.mul_assoc, ← e2, e]
    · exact ⟨n, 0, by simp, hd⟩
/-- how often p divides n -/
noncomputable def vp (p n : Int) : Int := if h : 2 ≤ p ∧ n ≠ 0 then ((val_ex p h.1 n.natAbs n (Nat.le_refl _) h.2).choose_spec.choose : Nat) else 0
theorem vp_spec {p n : Int} (hp : 2 ≤ p) (hn : n ≠ 0) : ∃ (m : Int) (v : Nat), n = m * p ^ v ∧ m % p ≠ 0 ∧ vp p n = v := by
  have h : 2 ≤ p ∧ n ≠ 0 := ⟨hp, hn⟩
  have s := (val_ex p h.1 n.natAbs n (Nat.le_refl _) h.2).choose_spec.choose_spec
  exact ⟨_, _, s.1, s.2, by unfold vp; rw [dif_pos h]⟩
theorem f_exp {p n : Int} (hp : 2 ≤ p) (hp2 : p < 2 ^ 8000) (hn : n ≠ 0) : F_exponent [.int p, .int n] = .ok (.int (vp p n)) := by
  obtain ⟨m, v, e, hm, hv⟩ := vp_spec hp hn
  rw [hv]
  conv => lhs; rw [e]
  exact f_exponent p m hp hp2 hm v
theorem vp_uniq {p m n : Int} {u v : Nat} (hp : 2 ≤ p) (e : m * p ^ u = n * p ^ v) (hm : m % p ≠ 0) (hn : n % p ≠ 0) : u = v := by
  have key : ∀ {m n : Int} {u v : Nat}, m * p ^ u = n * p ^ v → m % p ≠ 0 → n % p ≠ 0 → u ≤ v := fun {m n u v} e hm hn => by
    refine Nat.le_of_not_lt fun h => hn ?_
    obtain ⟨k, rfl⟩ : ∃ k, u = v + (k + 1) := ⟨u - v - 1, by omega⟩
    rw [Int.pow_add, Int.mul_comm (p ^ v), ← Int.mul_assoc] at e
    have hpv : p ^ v ≠ 0 := Int.pow_ne_zero (by omega)
    have e2 := Int.eq_of_mul_eq_mul_right hpv e
    rw [← e2, Int.pow_succ, ← Int.mul_assoc]
    exact Int.mul_emod_left _ _
  exact Nat.le_antisymm (key e hm hn) (key e.symm hn hm)
theorem vp_neg {p n : Int} (hp : 2 ≤ p) (hn : n ≠ 0) : vp p (-n) = vp p n := by
  obtain ⟨m, v, e, hm, hv⟩ := vp_spec hp hn
  obtain ⟨m2, v2, e2, hm2, hv2⟩ := vp_spec hp (show -n ≠ 0 by omega)
  have hm' : (-m) % p ≠ 0 := fun z => hm (by
    have := Int.dvd_of_emod_eq_zero z
    exact Int.emod_eq_zero_of_dvd (Int.dvd_neg.mp this))
  have : v2 = v := vp_uniq hp (by rw [← e2, Int.neg_mul, ← e]) hm2 hm'
  rw [hv, hv2, this]
end PM
namespace PM
end PM
namespace PM
open PySem PySem.Spec L2 PL
open PyProof.Rows hiding St
theorem stp {i : Nat} {f : Rho → R PV} {k : Rho → Out} {ρ : Rho} (p : PV) {r : R PV} (h : f ρ = .ok p) (g : (k (ρ.set i (.val p))).res = r) : (bSeq (sSet i f) k ρ).res = r := by
  rw [bSeq_eq, sSet_eq, h, st_ok, then_next]; exact g
theorem skp {t : Rho → R Bool} {u k : Rho → Out} {ρ : Rho} {r : R PV} (h : t ρ = .ok false) (g : (k ρ).res = r) : (bSeq (sIf t u bNil) k ρ).res = r := by
  rw [bSeq_eq, sIf_eq, h, stB_ok, if_neg Bool.false_ne_true, bNil_eq, then_next]; exact g
theorem ifT {t : Rho → R Bool} {u v k : Rho → Out} {ρ : Rho} {r : R PV} (h : t ρ = .ok true) (g : (bSeq u k ρ).res = r) : (bSeq (sIf t u v) k ρ).res = r := by
  rw [bSeq_eq, sIf_eq, h, stB_ok, if_pos rfl]; exact g
end PM
namespace PM
open PySem PySem.Spec L2 PL
open PyProof.Rows hiding St
@[simp] theorem isX0 {a : Addr} {b : Bool} {ρ : Rho} : isX 0 a b (.ex a :: ρ) = .ok (.bl b) := by
  have e : isX 0 a b (.ex a :: ρ) = (if a = a then .ok (.bl b) else .stuck) := rfl
  rw [e, if_pos rfl]
@[simp] theorem isXs {i : Nat} {a : Addr} {b : Bool} {s : Slot} {ρ : Rho} : isX (i + 1) a b (s :: ρ) = isX i a b ρ := by simp [isX]
@[simp] theorem hotCs {i : Nat} {a : Addr} {F : Addr → R PV} {s : Slot} {ρ : Rho} : hotC (i + 1) a F (s :: ρ) = hotC i a F ρ := by simp [hotC]
@[simp] theorem behind_next {i : Nat} {ρ : Rho} : behindX i (.next ρ) = .next (ρ.set i .un) := nr rfl
@[simp] theorem behind_ret {i : Nat} {p : PV} : behindX i (.ret p) = .ret p := nr rfl
end PM
set_option Elab.async false
set_option linter.all false
set_option maxRecDepth 100000
set_option autoImplicit false
set_option exponentiation.threshold 20000
namespace PM
open PySem PySem.Spec L2 PL
open PyProof.Rows hiding St
def Dg (p : Int) (ds : List Int) : Prop := ∀ d ∈ ds, 0 ≤ d ∧ d < p
def U (p : Int) : List Int → Int
  | [] => 0
  | d :: r => U p r * p + d
theorem Dg.tail {p d : Int} {r : List Int} (h : Dg p (d :: r)) : Dg p r := fun x hx => h x (List.mem_cons_of_mem _ hx)
theorem pow_sz {p : Int} (hp : 2 ≤ p) (hp2 : p ≤ 97) (n : Nat) : (p ^ n).natAbs < 2 ^ (7 * n + 1) := pow_bound (m := 7) (by omega) n
def digs (p : Int) : Int → Nat → List Int
  | _, 0 => []
  | n, k + 1 => (n % p) :: digs p (n / p) k
theorem digs_len (p : Int) : ∀ (k : Nat) (n : Int), (digs p n k).length = k
  | 0, _ => rfl
  | k + 1, n => by unfold digs; rw [List.length_cons, digs_len p k]
theorem digs_Dg {p : Int} (hp : 2 ≤ p) : ∀ (k : Nat) (n : Int), Dg p (digs p n k)
  | 0, _ => fun _ h => nomatch h
  | k + 1, n => fun d h => by
    unfold digs at h
    rcases List.mem_cons.mp h with rfl | h
    · exact ⟨Int.emod_nonneg _ (by omega), Int.emod_lt_of_pos _ (by omega)⟩
    · exact digs_Dg hp k _ d h
theorem U_digs {p : Int} (hp : 2 ≤ p) : ∀ (k : Nat) (n : Int), U p (digs p n k) = n % p ^ k
  | 0, n => by simp [digs, U]
  | k + 1, n => by
    unfold digs U
    rw [U_digs hp k]
    have h1 : n % p + p * (n / p) = n := by have := Int.mul_ediv_add_emod n p; omega
    have h2 : n / p % p ^ k + p ^ k * (n / p / p ^ k) = n / p := by have := Int.mul_ediv_add_emod (n / p) (p ^ k); omega
    have hpk : 0 < p ^ k := Int.pow_pos (by omega)
    have b1 := Int.emod_nonneg n (show p ≠ 0 by omega)
    have b2 := Int.emod_lt_of_pos n (show 0 < p by omega)
    have b3 := Int.emod_nonneg (n / p) (show p ^ k ≠ 0 by omega)
    have b4 := Int.emod_lt_of_pos (n / p) hpk
    obtain ⟨q, hq⟩ : ∃ q, q = n / p / p ^ k := ⟨_, rfl⟩
    obtain ⟨r, hr⟩ : ∃ r, r = n / p % p ^ k := ⟨_, rfl⟩
    rw [← hq, ← hr] at h2
    rw [← hr] at b3 b4 ⊢
    have e : n = (r * p + n % p) + p ^ (k + 1) * q := by
      rw [Int.pow_succ]
      have : p * (n / p) = p * r + p ^ k * p * q := by
        rw [← h2, Int.mul_add, ← Int.mul_assoc, Int.mul_comm p (p ^ k)]
      rw [Int.mul_comm r p]
      omega
    have b5 : 0 ≤ r * p := Int.mul_nonneg b3 (by omega)
    have b6 : (r + 1) * p ≤ p ^ k * p := Int.mul_le_mul_of_nonneg_right (by omega) (by omega)
    have ps : p ^ (k + 1) = p ^ k * p := Int.pow_succ p k
    rw [Int.add_mul, ← ps] at b6
    conv => rhs; rw [e, Int.add_mul_emod_self_left]
    exact (Int.emod_eq_of_lt (by omega) (by omega)).symm
theorem whole_run (p : Int) (hp : 2 ≤ p) (hp2 : p ≤ 97) (a1 a3 : PV) : ∀ (items : List PV) (n : Int) (figs : List Int) (s5 s6 : Slot), figs.length + items.length ≤ 5000 →
    ∃ n' s5' s6', forL (gN 5) (bSeq (sTo (gT (gsCons (gN 2) (gsCons (gN 6) gsNil))) (eD divmodP (aCons (eVo 2) (aCons (eVo 0) aNil)))) (bSeq (sMut 4 appP (eV 6)) bNil)) items [.val (.int p), .val a1, .val (.int n), .val a3, .own (figs.map PV.int), s5, s6] = .next [.val (.int p), .val a1, .val (.int n'), .val a3, .own ((figs ++ digs p n items.length).map PV.int), s5', s6'] := by
  intro items
  induction items with
  | nil => intro n figs s5 s6 _; exact ⟨n, s5, s6, by simp [digs]⟩
  | cons q qs ih =>
    intro n figs s5 s6 hl
    rw [List.length_cons] at hl
    have dm := divmodP_pos (a := n) (b := p) (by omega) (by omega)
    obtain ⟨n', s5', s6', e⟩ := ih (n / p) (figs ++ [n % p]) (.val q) (.val (.int (n % p))) (by rw [List.length_append, List.length_singleton]; omega)
    refine ⟨n', s5', s6', ?_⟩
    have ap : appP (figs.map PV.int) (.int (n % p)) = .ok ((figs ++ [n % p]).map PV.int) := by rw [appP_ok (by rw [List.length_map]; omega), List.map_append]; rfl
    rw [forL_cons, List.length_cons]
    simp only [gN_eq, onR_some, List.set_cons_succ, List.set_cons_zero, bSeq_eq, sTo_eq, eD_eq, aCons_eq, aNil_eq, eVo0, eVos, bind1, dm, st_ok, gT_eq, gsCons_eq, gsNil_eq, Option.bind_some, then_next, sMut_eq, getOwn0, getOwnS, onOwn_some, eV0, eVs, ap, own_ok, bNil_eq, fo_next, e]
    rw [show digs p n (qs.length + 1) = (n % p) :: digs p (n / p) qs.length from rfl, List.append_assoc, List.singleton_append]
theorem f_of_whole (p e n : Int) (k : Nat) (hp : p ∈ primesL) (hk : k ≤ 5000) : F_of_whole [.int p, .int e, .int n, .int k] = .ok (leftV p (e + lead (digs p n k)) (strip (digs p n k))) := by
  refine (runF_eq (n := 7) (u := D_of_whole)).trans ?_
  show (D_of_whole [.val (.int p), .val (.int e), .val (.int n), .val (.int k), .un, .un, .un]).res = _
  have hpb := primesL_le p hp
  have hr : rng1 [.int (k : Int)] = .ok (rngL 0 k) := by rw [rng1_sm (by omega) (by omega)]; rfl
  obtain ⟨n', s5, s6, r⟩ := whole_run p hpb.1 hpb.2 (.int e) (.int k) (rngL 0 k) n [] .un .un (by rw [rngL_len]; simp; omega)
  rw [rngL_len, List.nil_append] at r
  have l := f_left p e (.lst ((digs p n k).map PV.int)) (digs p n k) hp (.inl rfl) (by rw [digs_len]; omega) (digs_Dg hpb.1 k n)
  simp only [List.map_nil] at r
  simp [D_of_whole, hr, r, l]
theorem head_lead {ds : List Int} (h : ds.head? ≠ some 0) : lead ds = 0 ∧ strip ds = ds := by
  cases ds with
  | nil => exact ⟨rfl, rfl⟩
  | cons d r =>
    have hd : (d == 0) = false := by simpa using h
    constructor
    · unfold lead; simp [hd]
    · unfold strip; simp [hd]
theorem strip_head' (ds : List Int) : (strip ds).head? ≠ some 0 := by
  cases h : strip ds with
  | nil => simp
  | cons d r =>
    have := strip_head ds d r h
    simpa using this
theorem strip_Dg {p : Int} {ds : List Int} (h : Dg p ds) : Dg p (strip ds) := fun d hd => h d (strip_mem ds d hd)
/-- a left number in its form -/
structure Lf (p : Int) (ds : List Int) (n : Nat) : Prop where
  pr : p ∈ primesL
  dg : Dg p ds
  hd : ds.head? ≠ some 0
  len : ds.length ≤ n
theorem Lf.b {p : Int} {ds : List Int} {n : Nat} (h : Lf p ds n) : 2 ≤ p ∧ p ≤ 97 := primesL_le p h.pr
theorem lf_strip {p : Int} {ds : List Int} {n : Nat} (hp : p ∈ primesL) (hd : Dg p ds) (hl : ds.length ≤ n) : Lf p (strip ds) n := ⟨hp, strip_Dg hd, strip_head' ds, by rw [strip_len]; omega⟩
theorem minP_ok (a b : Int) : minP [.int a, .int b] = .ok (.int (min a b)) := by
  have e : minP [.int a, .int b] = .ok (.int (if b < a then b else a)) := rfl
  rw [e]; congr 2; split <;> omega
end PM
namespace PM
open PL
theorem log2_le_lt {a b m : Nat} (h : a ≤ b) (hb : b.log2 < m) : a.log2 < m := by
  by_cases h0 : a = 0
  · subst h0; rw [Nat.log2_zero]; omega
  · exact (Nat.log2_lt h0).mpr (Nat.lt_of_le_of_lt h ((Nat.log2_lt (by omega)).mp hb))
theorem okMul_log {a b : Int} {m n : Nat} (ha : a.natAbs.log2 < m) (hb : b.natAbs.log2 < n) (h : m + n ≤ 100000000) : okMul a b = true := decide_eq_true (by omega)
theorem nth_log (ns : List Int) (hb : ∀ z ∈ ns, z.natAbs.log2 < 1048577) (k : Int) : (nth ns k).natAbs.log2 < 1048577 := by
  unfold nth
  rw [List.getD_eq_getElem?_getD]
  cases h : ns[k.toNat]? with
  | none => simp
  | some z => exact hb z (List.mem_of_getElem? h)
end PM
namespace PM
open PySem PySem.Spec L2 PL
open PyProof.Rows hiding St
theorem U_cons (p d : Int) (r : List Int) : U p (d :: r) = U p r * p + d := rfl
theorem U_strip (p : Int) : ∀ ds : List Int, U p ds = U p (strip ds) * p ^ lead ds
  | [] => by simp [U, strip]
  | d :: r => by
    by_cases h : d = 0
    · subst h
      have e1 : lead (0 :: r) = lead r + 1 := by unfold lead; simp
      have e2 : strip (0 :: r) = strip r := by unfold strip; simp
      rw [e1, e2]
      rw [U_cons, U_strip p r, Int.pow_succ, Int.add_zero, Int.mul_assoc]
    · have hl := head_lead (ds := d :: r) (by simpa using h)
      rw [hl.1, hl.2, Int.pow_zero, Int.mul_one]
end PM
namespace PM
open PySem PySem.Spec L2 PL
open PyProof.Rows hiding St
theorem digs_zero {p : Int} (hp : 2 ≤ p) : ∀ (k : Nat) (n : Int), n % p ^ k = 0 → lead (digs p n k) = k ∧ strip (digs p n k) = []
  | 0, _, _ => ⟨rfl, rfl⟩
  | k + 1, n, h => by
    have h1 : n % p = 0 := by
      have d := Int.dvd_of_emod_eq_zero h
      rw [Int.pow_succ] at d
      exact Int.emod_eq_zero_of_dvd (Int.dvd_trans ⟨p ^ k, Int.mul_comm _ _⟩ d)
    have h2 : n / p % p ^ k = 0 := by
      obtain ⟨x, hx⟩ := Int.dvd_of_emod_eq_zero h
      rw [Int.pow_succ, Int.mul_comm (p ^ k) p, Int.mul_assoc] at hx
      rw [hx, Int.mul_ediv_cancel_left _ (by omega)]
      exact Int.mul_emod_right _ _
    have ih := digs_zero hp k (n / p) h2
    rw [show digs p n (k + 1) = n % p :: digs p (n / p) k from rfl, h1]
    have e1 : lead (0 :: digs p (n / p) k) = lead (digs p (n / p) k) + 1 := by unfold lead; simp
    have e2 : strip (0 :: digs p (n / p) k) = strip (digs p (n / p) k) := by unfold strip; simp
    rw [e1, e2, ih.1, ih.2]
    exact ⟨rfl, rfl⟩
end PM
set_option Elab.async false
set_option linter.all false
set_option maxRecDepth 100000
set_option autoImplicit false
set_option exponentiation.threshold 20000
namespace PM
open PySem PySem.Spec L2 PL
open PyProof.Rows hiding St
/-- alike but for multiples -/
def Mo (m x y : Int) : Prop := ∃ z, x = y + m * z
theorem Mo.refl (m x : Int) : Mo m x x := ⟨0, by simp⟩
theorem Mo.of_eq {m x y : Int} (h : x = y) : Mo m x y := h ▸ Mo.refl m x
theorem Mo.symm {m x y : Int} (h : Mo m x y) : Mo m y x := by obtain ⟨z, h⟩ := h; exact ⟨-z, by grind⟩
theorem Mo.trans {m x y w : Int} (h : Mo m x y) (g : Mo m y w) : Mo m x w := by
  obtain ⟨z, h⟩ := h; obtain ⟨u, g⟩ := g; exact ⟨z + u, by grind⟩
theorem Mo.add {m x y u v : Int} (h : Mo m x y) (g : Mo m u v) : Mo m (x + u) (y + v) := by
  obtain ⟨z, h⟩ := h; obtain ⟨w, g⟩ := g; exact ⟨z + w, by grind⟩
theorem Mo.sub {m x y u v : Int} (h : Mo m x y) (g : Mo m u v) : Mo m (x - u) (y - v) := by
  obtain ⟨z, h⟩ := h; obtain ⟨w, g⟩ := g; exact ⟨z - w, by grind⟩
theorem Mo.mul {m x y u v : Int} (h : Mo m x y) (g : Mo m u v) : Mo m (x * u) (y * v) := by
  obtain ⟨z, h⟩ := h; obtain ⟨w, g⟩ := g; exact ⟨y * w + z * v + m * z * w, by subst h g; grind⟩
theorem Mo.dvd {m k x y : Int} (h : Mo (m * k) x y) : Mo m x y := by
  obtain ⟨z, h⟩ := h; exact ⟨k * z, by rw [h, Int.mul_assoc]⟩
theorem Mo.scale {m x y : Int} (k : Int) (h : Mo m x y) : Mo (m * k) (x * k) (y * k) := by
  obtain ⟨z, h⟩ := h; exact ⟨z, by subst h; grind⟩
theorem Mo.eq {m x y : Int} (h : Mo m x y) : x % m = y % m := by
  obtain ⟨z, h⟩ := h; rw [h, Int.add_mul_emod_self_left]
theorem pow_split (p : Int) {a b : Nat} (h : a ≤ b) : p ^ b = p ^ a * p ^ (b - a) := by rw [← Int.pow_add]; congr 1; omega
theorem Mo.low {p x y : Int} {a b : Nat} (h : Mo (p ^ b) x y) (hab : a ≤ b) : Mo (p ^ a) x y := by
  rw [pow_split p hab] at h; exact h.dvd
/-- the figures' sum over a base -/
def V (p b e : Int) (ds : List Int) : Int := U p ds * p ^ (e - b).toNat
theorem V_self (p e : Int) (ds : List Int) : V p e e ds = U p ds := by unfold V; rw [Int.sub_self]; simp
theorem V_shift (p : Int) {b c e : Int} (ds : List Int) (h : b ≤ c) (h2 : c ≤ e) : V p b e ds = V p c e ds * p ^ (c - b).toNat := by
  unfold V; rw [Int.mul_assoc, ← Int.pow_add]; congr 2; omega
/-- one goes on where the other ends -/
structure Ext (p e' : Int) (ds' : List Int) (e : Int) (ds : List Int) : Prop where
  le : e ≤ e'
  en : e + ds.length ≤ e' + ds'.length
  mo : Mo (p ^ ds.length) (V p e e' ds') (U p ds)
theorem Ext.refl (p e : Int) (ds : List Int) : Ext p e ds e ds := ⟨Int.le_refl _, Int.le_refl _, by rw [V_self]; exact Mo.refl _ _⟩
theorem Ext.base {p e' e : Int} {ds' ds : List Int} (h : Ext p e' ds' e ds) {b : Int} (hb : b ≤ e) : Mo (p ^ (e + ds.length - b).toNat) (V p b e' ds') (V p b e ds) := by
  rw [V_shift p ds' hb h.le, V_shift p ds hb (Int.le_refl e), V_self, show (e + ds.length - b).toNat = ds.length + (e - b).toNat by omega, Int.pow_add]
  exact h.mo.scale _
end PM
namespace PM
open PySem PySem.Spec L2 PL
open PyProof.Rows hiding St
theorem prime_mul : ∀ p ∈ primesN, ∀ a : Nat, a < p → ∀ b : Nat, b < p → a ≠ 0 → b ≠ 0 → a * b % p ≠ 0 := by decide +kernel
theorem prime_mulI {p a b : Int} (hp : p ∈ primesL) (ha : a % p ≠ 0) (hb : b % p ≠ 0) : a * b % p ≠ 0 := by
  have hpb := primesL_le p hp
  rw [Int.mul_emod]
  have a1 := Int.emod_nonneg a (show p ≠ 0 by omega)
  have a2 := Int.emod_lt_of_pos a (show 0 < p by omega)
  have b1 := Int.emod_nonneg b (show p ≠ 0 by omega)
  have b2 := Int.emod_lt_of_pos b (show 0 < p by omega)
  have e2 : primesL = primesN.map fun (n : Nat) => (n : Int) := rfl
  rw [e2] at hp
  obtain ⟨n, hn, rfl⟩ := List.mem_map.mp hp
  obtain ⟨x, hx⟩ : ∃ x : Nat, a % (n : Int) = x := ⟨(a % (n : Int)).toNat, by omega⟩
  obtain ⟨y, hy⟩ : ∃ y : Nat, b % (n : Int) = y := ⟨(b % (n : Int)).toNat, by omega⟩
  rw [hx, hy]
  rw [hx] at ha a2
  rw [hy] at hb b2
  have := prime_mul n hn x (by omega) y (by omega) (by omega) (by omega)
  rw [← Int.natCast_mul, ← Int.natCast_emod]
  omega
end PM
namespace PM
open PySem PySem.Spec L2 PL
open PyProof.Rows hiding St
theorem Lf.le {p : Int} {ds : List Int} {n m : Nat} (h : Lf p ds n) (hm : n ≤ m) : Lf p ds m := ⟨h.pr, h.dg, h.hd, Nat.le_trans h.len hm⟩
end PM
set_option Elab.async false
set_option linter.all false
set_option maxRecDepth 100000
set_option autoImplicit false
set_option exponentiation.threshold 20000
namespace PM
open PySem PySem.Spec L2 PL
open PyProof.Rows hiding St
theorem prime_cop : ∀ p ∈ primesN, ∀ a : Nat, a < p → a ≠ 0 → Nat.gcd a p = 1 := by decide +kernel
theorem gcd_mod (a w : Int) : Int.gcd (a % w) w = Int.gcd a w := by
  have e : a = a % w + w * (a / w) := by have := Int.mul_ediv_add_emod a w; omega
  conv => rhs; rw [e]
  rw [Int.gcd_add_mul_left_left]
theorem prime_gcd {p a : Int} (hp : p ∈ primesL) (ha : a % p ≠ 0) (k : Nat) : Int.gcd a (p ^ k) = 1 := by
  have hpb := primesL_le p hp
  have e2 : primesL = primesN.map fun (n : Nat) => (n : Int) := rfl
  rw [e2] at hp
  obtain ⟨n, hn, rfl⟩ := List.mem_map.mp hp
  obtain ⟨x, hx⟩ : ∃ x : Nat, a % (n : Int) = x := ⟨(a % (n : Int)).toNat, by have := Int.emod_nonneg a (show (n : Int) ≠ 0 by omega); omega⟩
  have hlt := Int.emod_lt_of_pos a (show 0 < (n : Int) by omega)
  rw [hx] at ha hlt
  have g := prime_cop n hn x (by omega) (by omega)
  have e : Int.gcd a (n : Int) = 1 := by
    have h1 : Int.gcd (a % (n : Int)) (n : Int) = Int.gcd a (n : Int) := gcd_mod _ _
    rw [← h1, hx]; exact g
  have e3 : Nat.Coprime a.natAbs (n ^ k) := Nat.Coprime.pow_right k e
  show Nat.gcd a.natAbs ((n : Int) ^ k).natAbs = 1
  rw [Int.natAbs_pow]; exact e3
theorem le_of_mul_le {a x w : Int} (hx : 0 < x) (ha : 0 ≤ a) (h : a * x ≤ w) : a ≤ w := by
  have := Int.mul_le_mul_of_nonneg_left (show 1 ≤ x by omega) ha
  omega
end PM
namespace PM
open PySem PySem.Spec L2 PL
open PyProof.Rows hiding St
theorem addT_ok {a b : List PV} (h : a.length + b.length ≤ 1000000) : addP (.tup a) (.tup b) = .ok (.tup (a ++ b)) := by
  unfold addP; dsimp only; rw [if_pos (size_ok h)]
end PM
namespace PM
open PySem PySem.Spec L2 PL
open PyProof.Rows hiding St
end PM
set_option Elab.async false
set_option linter.all false
set_option maxRecDepth 100000
set_option autoImplicit false
set_option exponentiation.threshold 20000
namespace PM
open PySem PySem.Spec L2 PL
open PyProof.Rows hiding St
/-- two neighbours of the row of rests -/
structure Nb (W u z r s v w : Int) : Prop where
  cr : Mo W r (u * s)
  cv : Mo W v (u * w)
  sg : (0 < w ∧ s ≤ 0 ∧ r * w - v * s = W) ∨ (w < 0 ∧ 0 ≤ s ∧ r * w - v * s = -W)
  rz : z < r
  v0 : 0 ≤ v
  vr : v < r
  rW : r ≤ W
  sW : -W ≤ s ∧ s ≤ W
theorem Nb.wW {W u z r s v w : Int} (h : Nb W u z r s v w) (hz : 1 ≤ z) : -W ≤ w ∧ w ≤ W := by
  have hr := h.rz
  have v0 := h.v0
  have hW := h.rW
  rcases h.sg with ⟨h1, h2, h3⟩ | ⟨h1, h2, h3⟩
  · have : v * s ≤ 0 := Int.mul_nonpos_of_nonneg_of_nonpos v0 h2
    have := le_of_mul_le (a := w) (x := r) (w := W) (by omega) (by omega) (by rw [Int.mul_comm]; omega)
    omega
  · have e : 0 ≤ v * s := Int.mul_nonneg v0 h2
    have := le_of_mul_le (a := -w) (x := r) (w := W) (by omega) (by omega) (by rw [Int.neg_mul, Int.mul_comm]; omega)
    omega
theorem Nb.step {W u z r s v w : Int} (h : Nb W u z r s v w) (hz : 1 ≤ z) (hv : z < v) : Nb W u z v w (r % v) (s - r / v * w) := by
  have v0 := h.v0
  have vr := h.vr
  have rW := h.rW
  have ww := h.wW hz
  have q1 : 1 ≤ r / v := (Int.le_ediv_iff_mul_le (by omega)).mpr (by omega)
  have er : r / v * v + r % v = r := by have := Int.mul_ediv_add_emod r v; rw [Int.mul_comm] at this; exact this
  have m0 := Int.emod_nonneg r (show v ≠ 0 by omega)
  have m1 := Int.emod_lt_of_pos r (show 0 < v by omega)
  generalize r / v = q at *
  generalize r % v = m at *
  have det : v * (s - q * w) - m * w = -(r * w - v * s) := by rw [← er]; grind
  refine ⟨h.cv, ?_, ?_, hv, m0, m1, by omega, ww⟩
  · have t := h.cr.sub ((Mo.refl W q).mul h.cv)
    have e : r - q * v = m := by omega
    rw [e] at t
    exact t.trans (.of_eq (by grind))
  · rcases h.sg with ⟨h1, h2, h3⟩ | ⟨h1, h2, h3⟩
    · have : 1 * w ≤ q * w := Int.mul_le_mul_of_nonneg_right q1 (by omega)
      exact .inr ⟨by omega, by omega, by rw [det]; omega⟩
    · have : q * w ≤ 1 * w := Int.mul_le_mul_of_nonpos_right q1 (by omega)
      exact .inl ⟨by omega, by omega, by rw [det]; omega⟩
end PM
set_option Elab.async false
set_option linter.all false
set_option maxRecDepth 100000
set_option autoImplicit false
set_option exponentiation.threshold 20000
namespace PM
open PySem PySem.Spec L2 PL
open PyProof.Rows hiding St
theorem dvd_cop {y x b : Int} (h : y ∣ x * b) (g : Int.gcd y x = 1) : y ∣ b := by
  have h1 : y.natAbs ∣ x.natAbs * b.natAbs := by rw [← Int.natAbs_mul]; exact Int.natAbs_dvd_natAbs.mpr h
  exact Int.natAbs_dvd_natAbs.mp (Nat.Coprime.dvd_of_dvd_mul_left (k := y.natAbs) g h1)
/-- lowest terms are only one -/
theorem low_uniq {T B t b : Int} (hB : B ≠ 0) (hb : 0 < b) (hg : Int.gcd t b = 1) (h : T * b = t * B) : ftop T B = t ∧ fbot T B = b := by
  have y0 := fbot_pos (t := T) hB
  have fl := flow (t := T) hB
  have cr := fcross T B
  generalize ftop T B = x at *
  generalize fbot T B = y at *
  have e : x * b = t * y := by
    have : B * (x * b) = B * (t * y) := by
      calc B * (x * b) = x * B * b := by grind
        _ = T * y * b := by rw [cr]
        _ = T * b * y := by grind
        _ = t * B * y := by rw [h]
        _ = B * (t * y) := by grind
    exact Int.eq_of_mul_eq_mul_left hB this
  have d1 : y ∣ b := dvd_cop (show y ∣ x * b from ⟨t, by rw [e, Int.mul_comm]⟩) (by rw [Int.gcd_comm]; exact fl)
  have d2 : b ∣ y := dvd_cop (show b ∣ t * y from ⟨x, by rw [← e, Int.mul_comm]⟩) (by rw [Int.gcd_comm]; exact hg)
  have yb : y = b := Int.le_antisymm (Int.le_of_dvd hb d1) (Int.le_of_dvd y0 d2)
  subst yb
  exact ⟨Int.eq_of_mul_eq_mul_right (by omega) e, rfl⟩
theorem inv_tab : ∀ p ∈ primesN, ∀ a : Nat, a < p → a ≠ 0 → ((List.range p).any fun j => a * j % p == 1) = true := by decide +kernel
theorem inv_ex {p b : Int} (hp : p ∈ primesL) (hb : b % p ≠ 0) : ∃ j : Nat, (j : Int) < p ∧ b * j % p = 1 := by
  have hpb := primesL_le p hp
  have e2 : primesL = primesN.map fun (n : Nat) => (n : Int) := rfl
  rw [e2] at hp
  obtain ⟨n, hn, rfl⟩ := List.mem_map.mp hp
  obtain ⟨x, hx⟩ : ∃ x : Nat, b % (n : Int) = x := ⟨(b % (n : Int)).toNat, by have := Int.emod_nonneg b (show (n : Int) ≠ 0 by omega); omega⟩
  have hlt := Int.emod_lt_of_pos b (show 0 < (n : Int) by omega)
  rw [hx] at hb hlt
  obtain ⟨j, h1, h2⟩ := List.any_eq_true.mp (inv_tab n hn x (by omega) (by omega))
  refine ⟨j, by have := List.mem_range.mp h1; omega, ?_⟩
  rw [Int.mul_emod, hx, Int.emod_eq_of_lt (a := (j : Int)) (by omega) (by have := List.mem_range.mp h1; omega), ← Int.natCast_mul, ← Int.natCast_emod]
  have := beq_iff_eq.mp h2
  omega
end PM
namespace PM
open PySem PySem.Spec L2 PL
open PyProof.Rows hiding St
theorem stpFor {it : Rho → R (List PV)} {tgt : PV → Rho → Option Rho} {body k : Rho → Out} {ρ : Rho} {r : R PV} (items : List PV) (ρ' : Rho) (hi : it ρ = .ok items) (hf : forL tgt body items ρ = .next ρ') (g : (k ρ').res = r) : (bSeq (sFor it tgt body) k ρ).res = r := by
  rw [bSeq_eq, sFor_eq, hi, stL_ok, hf, then_next]; exact g
end PM
set_option Elab.async false
set_option linter.all false
set_option maxRecDepth 100000
set_option autoImplicit false
set_option exponentiation.threshold 20000
namespace PM
open PySem PySem.Spec L2 PL
open PyProof.Rows hiding St
end PM
set_option Elab.async false
set_option linter.all false
set_option maxRecDepth 100000
set_option autoImplicit false
set_option exponentiation.threshold 20000
namespace PM
open PySem PySem.Spec L2 PL
open PyProof.Rows hiding St
end PM
set_option Elab.async false
set_option linter.all false
set_option maxRecDepth 100000
set_option autoImplicit false
set_option exponentiation.threshold 20000
namespace PM
/-- the sum in A ^ n - B ^ n = (A - B) .. -/
def Gm (A B : Int) : Nat → Int
  | 0 => 0
  | n + 1 => A ^ n + B * Gm A B n
theorem Gm_eq (A B : Int) : ∀ n : Nat, A ^ n = B ^ n + (A - B) * Gm A B n
  | 0 => by simp [Gm]
  | n + 1 => by
    have ih := Gm_eq A B n
    have e : Gm A B (n + 1) = A ^ n + B * Gm A B n := rfl
    rw [e, Int.pow_succ, Int.pow_succ]
    grind
theorem pow_two_up (B D : Int) : ∀ n : Nat, ∃ w, (B + D) ^ (n + 1) = B ^ (n + 1) + (n + 1) * D * B ^ n + D * D * w
  | 0 => ⟨0, by simp [Int.pow_succ]⟩
  | n + 1 => by
    obtain ⟨w, h⟩ := pow_two_up B D n
    refine ⟨(n + 1) * B ^ n + w * (B + D), ?_⟩
    rw [Int.pow_succ, h, Int.pow_succ B (n + 1), Int.pow_succ B n]
    have e : ((n + 1 : Nat) : Int) = (n : Int) + 1 := by omega
    rw [e]
    grind
/-- modulo its square, twice -/
theorem Gm_mod2 (B D : Int) : ∀ n : Nat, ∃ w, 2 * Gm (B + D) B (n + 2) = 2 * (n + 2) * B ^ (n + 1) + (n + 2) * (n + 1) * D * B ^ n + 2 * (D * D) * w
  | 0 => ⟨0, by simp [Gm]; grind⟩
  | n + 1 => by
    obtain ⟨w, h⟩ := Gm_mod2 B D n
    obtain ⟨v, g⟩ := pow_two_up B D (n + 1)
    refine ⟨v + B * w, ?_⟩
    have e : Gm (B + D) B (n + 1 + 2) = (B + D) ^ (n + 2) + B * Gm (B + D) B (n + 2) := rfl
    have e2 : ((n + 1 : Nat) : Int) = (n : Int) + 1 := by omega
    rw [e, Int.mul_add, g, e2]
    rw [e2] at g
    have h' : 2 * (B * Gm (B + D) B (n + 2)) = B * (2 * (n + 2) * B ^ (n + 1) + (n + 2) * (n + 1) * D * B ^ n + 2 * (D * D) * w) := by rw [← h]; grind
    rw [h', Int.pow_succ B (n + 1), Int.pow_succ B n]
    grind
theorem pow_ne {p B : Int} (hp : p ∈ primesL) (hB : B % p ≠ 0) : ∀ n : Nat, B ^ n % p ≠ 0
  | 0 => by
    have := primesL_le p hp
    rw [Int.pow_zero, Int.emod_eq_of_lt (by omega) (by omega)]; omega
  | n + 1 => by rw [Int.pow_succ]; exact prime_mulI hp (pow_ne hp hB n) hB
theorem ne_add {p a b : Int} (ha : a % p ≠ 0) : (a + p * b) % p ≠ 0 := by rw [Int.add_mul_emod_self_left]; exact ha
theorem step_p {p B z : Int} (hp : p ∈ primesL) (hB : B % p ≠ 0) (j : Nat) (hj : 1 ≤ j) (h2 : p = 2 → 2 ≤ j) : ∃ g, Gm (B + p ^ j * z) B p.toNat = p * g ∧ g % p ≠ 0 := by
  have hpb := primesL_le p hp
  by_cases h : p = 2
  · subst h
    obtain ⟨i, rfl⟩ : ∃ i, j = i + 2 := ⟨j - 2, by have := h2 rfl; omega⟩
    refine ⟨B + 2 * (2 ^ i * z), ?_, ne_add hB⟩
    have e : (2 : Int) ^ (i + 2) = 4 * 2 ^ i := by rw [Int.pow_succ, Int.pow_succ]; grind
    rw [e]
    show (B + 4 * 2 ^ i * z) ^ 1 + B * ((B + 4 * 2 ^ i * z) ^ 0 + B * 0) = _
    rw [Int.pow_zero, Int.pow_succ, Int.pow_zero]
    grind
  · obtain ⟨n, hn⟩ : ∃ n, p.toNat = n + 2 := ⟨p.toNat - 2, by omega⟩
    obtain ⟨i, rfl⟩ : ∃ i, j = i + 1 := ⟨j - 1, by omega⟩
    obtain ⟨d, hd⟩ : ∃ d, d = p ^ i * z := ⟨_, rfl⟩
    have eD : p ^ (i + 1) * z = p * d := by rw [hd, Int.pow_succ]; grind
    obtain ⟨w, hw⟩ := Gm_mod2 B (p * d) n
    have ep : (n : Int) + 2 = p := by omega
    rw [ep] at hw
    have e1 : 2 * Gm (B + p * d) B (n + 2) = p * (2 * B ^ (n + 1) + p * ((n + 1) * d * B ^ n + 2 * d * d * w)) := by rw [hw]; grind
    have c2 : (2 : Int) % p ≠ 0 := by rw [Int.emod_eq_of_lt (by omega) (by omega)]; omega
    have dv : p ∣ Gm (B + p * d) B (n + 2) := dvd_cop (x := 2) ⟨_, e1⟩ (by
      have := prime_gcd hp c2 1
      rw [Int.pow_one, Int.gcd_comm] at this
      exact this)
    obtain ⟨g, hg⟩ := dv
    refine ⟨g, by rw [eD, hn]; exact hg, fun k => ?_⟩
    have e2 : 2 * g = 2 * B ^ (n + 1) + p * ((n + 1) * d * B ^ n + 2 * d * d * w) := by
      have : p * (2 * g) = p * (2 * B ^ (n + 1) + p * ((n + 1) * d * B ^ n + 2 * d * d * w)) := by rw [← e1, hg]; grind
      exact Int.eq_of_mul_eq_mul_left (by omega) this
    have e3 := ne_add (p := p) (b := (n + 1) * d * B ^ n + 2 * d * d * w) (prime_mulI hp c2 (pow_ne hp hB (n + 1)))
    rw [← e2, Int.mul_emod, k, Int.mul_zero, Int.zero_emod] at e3
    exact e3 rfl
theorem lte_t {p B : Int} (hp : p ∈ primesL) (hB : B % p ≠ 0) (j : Nat) (y : Int) (hj : 1 ≤ j) (h2 : p = 2 → 2 ≤ j) : ∀ t : Nat, ∃ y', (B + p ^ j * y) ^ (p.toNat ^ t) = B ^ (p.toNat ^ t) + p ^ (j + t) * y' ∧ (y % p ≠ 0 → y' % p ≠ 0)
  | 0 => ⟨y, by simp [Int.pow_succ], fun h => h⟩
  | t + 1 => by
    obtain ⟨y', e, h⟩ := lte_t hp hB j y hj h2 t
    have hB1 := pow_ne hp hB (p.toNat ^ t)
    obtain ⟨g, g1, g2⟩ := step_p (z := y') hp hB1 (j + t) (by omega) (fun k => by have := h2 k; omega)
    have q := Gm_eq (B ^ (p.toNat ^ t) + p ^ (j + t) * y') (B ^ (p.toNat ^ t)) p.toNat
    refine ⟨y' * g, ?_, fun k => prime_mulI hp (h k) g2⟩
    rw [Nat.pow_succ, Int.pow_mul, Int.pow_mul, e, q, g1, show j + (t + 1) = j + t + 1 by omega, Int.pow_succ]
    grind
end PM
namespace PM
open PySem PySem.Spec L2 PL
open PyProof.Rows hiding St
theorem Mo.uniq {w x y : Int} (h : Mo w x y) (h0 : 0 ≤ x) (h1 : x < w) : x = y % w := by rw [← h.eq, Int.emod_eq_of_lt h0 h1]
end PM
set_option Elab.async false
set_option linter.all false
set_option maxRecDepth 100000
set_option autoImplicit false
set_option exponentiation.threshold 20000
namespace PM
open PySem PySem.Spec L2 PL
open PyProof.Rows hiding St
theorem vp_mul {p x y : Int} (hp : p ∈ primesL) (hx : x ≠ 0) (hy : y ≠ 0) : (vp p (x * y) : Int) = vp p x + vp p y := by
  have hpb := primesL_le p hp
  obtain ⟨m, u, e1, h1, k1⟩ := vp_spec (p := p) hpb.1 hx
  obtain ⟨n, v, e2, h2, k2⟩ := vp_spec (p := p) hpb.1 hy
  obtain ⟨r, w, e3, h3, k3⟩ := vp_spec (p := p) hpb.1 (Int.mul_ne_zero hx hy)
  have e : r * p ^ w = (m * n) * p ^ (u + v) := by rw [← e3, e1, e2, Int.pow_add]; grind
  have := vp_uniq hpb.1 e h3 (prime_mulI hp h1 h2)
  omega
end PM
set_option Elab.async false
set_option linter.all false
set_option maxRecDepth 100000
set_option autoImplicit false
set_option exponentiation.threshold 20000
namespace PM
open PySem PySem.Spec L2 PL
open PyProof.Rows hiding St
theorem stpN {c k : Rho → Out} {ρ ρ' : Rho} {r : R PV} (h : c ρ = .next ρ') (g : (k ρ').res = r) : (bSeq c k ρ).res = r := by
  rw [bSeq_eq, h, then_next]; exact g
theorem rngL_step (a : Int) (m : Nat) : rngL a (m + 1) = .int a :: rngL (a + 1) m := by
  unfold rngL
  rw [List.range_succ_eq_map, List.map_cons, List.map_map]
  congr 1
  · simp
  · apply List.map_congr_left
    intro x _
    simp only [Function.comp]
    congr 1
    omega
end PM
set_option Elab.async false
set_option linter.all false
set_option maxRecDepth 100000
set_option autoImplicit false
set_option exponentiation.threshold 20000
namespace PM
open PySem PySem.Spec L2 PL
open PyProof.Rows hiding St
end PM
set_option Elab.async false
set_option linter.all false
set_option maxRecDepth 100000
set_option autoImplicit false
set_option exponentiation.threshold 20000
namespace PM
open PySem PySem.Spec L2 PL
open PyProof.Rows hiding St
def figI (e : Int) (ds : List Int) (q : Int) : Int := if q < e then 0 else ds.getD (q - e).toNat 0
/-- the least place below L at which both are unlike, if there is one -/
def PartedI (L e f : Int) (ds es : List Int) (r : PV) : Prop :=
  (r = .non ∧ ∀ q, q < L → figI e ds q = figI f es q) ∨
  (∃ q, q < L ∧ r = .int q ∧ figI e ds q ≠ figI f es q ∧ ∀ q', q' < q → figI e ds q' = figI f es q')
theorem PartedI.uniq {L e f : Int} {ds es : List Int} {r s : PV} (h : PartedI L e f ds es r) (g : PartedI L e f ds es s) : r = s := by
  rcases h with ⟨rfl, h⟩ | ⟨q, h1, rfl, h2, h3⟩ <;> rcases g with ⟨rfl, g⟩ | ⟨q', g1, rfl, g2, g3⟩
  · rfl
  · exact absurd (h _ g1) g2
  · exact absurd (g _ h1) h2
  · have a : ¬ q < q' := fun z => h2 (g3 _ z)
    have b : ¬ q' < q := fun z => g2 (h3 _ z)
    rw [show q = q' by omega]
end PM
set_option Elab.async false
set_option linter.all false
set_option maxRecDepth 100000
set_option autoImplicit false
set_option exponentiation.threshold 20000
namespace PM
open PySem PySem.Spec L2 PL
open PyProof.Rows hiding St
@[simp] theorem sMut0_eq {i : Nat} {g : List PV → R (List PV)} {ρ : Rho} : sMut0 i g ρ = onOwn (getOwn ρ i) fun ps => R.own (g ps) ρ i := by
  unfold sMut0 getOwn
  cases ρ[i]? with
  | none => rfl
  | some t => cases t <;> rfl
@[simp] theorem clearP_eq {ps : List PV} : clearP ps = .ok [] := nr rfl
theorem popP_eq {ps : List PV} (h : ps ≠ []) : popP ps = .ok ps.dropLast := by
  cases ps with
  | nil => exact absurd rfl h
  | cons p r => rfl
def onSome {α : Type} (o : Option α) (k : α → Out) : Out := match o with
  | some a => k a
  | none => .stuck
@[simp] theorem onSome_some {α : Type} {a : α} {k : α → Out} : onSome (some a) k = k a := nr rfl
@[simp] theorem sAugI_eq {i : Nat} {fi f : Rho → R PV} {ρ : Rho} : sAugI i fi f ρ = onOwn (getOwn ρ i) fun ps => (fi ρ).st ρ fun q => onSome (getN ps q) fun x => (f ρ).st ρ fun y => R.own (augN ps q x y) ρ i := by
  unfold sAugI getOwn
  cases ρ[i]? with
  | none => rfl
  | some t => cases t with
    | own ps =>
      dsimp only [onOwn, sE]
      cases fi ρ with
      | stuck => rfl
      | exc c => rfl
      | ok q =>
        dsimp only [R.st]
        cases getN ps q with
        | none => rfl
        | some x =>
          dsimp only [onSome, sE]
          cases f ρ <;> rfl
    | _ => rfl
theorem getN_ints {ns : List Int} {k : Int} (h0 : 0 ≤ k) (h1 : k < ns.length) (h2 : ns.length ≤ 1000000) : getN (ns.map PV.int) (.int k) = some (.int (ns.getD k.toNat 0)) := by
  unfold getN
  dsimp only
  rw [if_pos ⟨h0, by omega⟩, List.getElem?_map, List.getElem?_eq_getElem (by omega), List.getD_eq_getElem?_getD, List.getElem?_eq_getElem (by omega)]
  rfl
theorem augN_ints {ns : List Int} {k a b : Int} (h0 : 0 ≤ k) (h1 : k < ns.length) : augN (ns.map PV.int) (.int k) (.int a) (.int b) = .ok ((ns.set k.toNat (a + b)).map PV.int) := by
  have e : ixN (ns.map PV.int).length k = some k.toNat := by
    unfold ixN
    rw [if_pos h0, List.length_map, if_pos h1]
  unfold augN
  dsimp only
  rw [e]
  dsimp only
  rw [List.map_set]
end PM
set_option Elab.async false
set_option linter.all false
set_option maxRecDepth 100000
set_option autoImplicit false
set_option exponentiation.threshold 20000
namespace PM
open PySem PySem.Spec L2 PL
open PyProof.Rows hiding St
theorem ixP_neg {l : List PV} {x : PV} {k : Nat} (hk : 1 ≤ k) (h : k ≤ l.length) (hx : l[l.length - k]? = some x) : ixP (.lst l) (.int (-(k : Int))) = .ok x := by
  have e : atI l (-(k : Int)) = some x := by
    unfold atI ixN
    rw [if_neg (by omega), if_pos (by omega), Option.bind_some, show (-(k : Int) + l.length).toNat = l.length - k by omega, hx]
  unfold ixP
  dsimp only
  rw [e]
theorem ixP_last (l : List PV) (x : PV) : ixP (.lst (l ++ [x])) (.int (-1)) = .ok x := ixP_neg (k := 1) (by omega) (by simp) (by simp)
theorem ixP_last2 (l : List PV) (x y : PV) : ixP (.lst (l ++ [x, y])) (.int (-2)) = .ok x := ixP_neg (k := 2) (by omega) (by simp) (by simp)
theorem ixP_last1 (l : List PV) (x y : PV) : ixP (.lst (l ++ [x, y])) (.int (-1)) = .ok y := ixP_neg (k := 1) (by omega) (by simp) (by simp)
def PolyI (as : List Int) : Prop := 2 ≤ as.length ∧ as.length ≤ 9 ∧ as.getLast? ≠ some 0
theorem whole_lc (as : List Int) (x : PV) : lcGo (gN 1) cYes (eD F_is_whole (aCons (eV 1) aNil)) [.val x, .un] (as.map PV.int) = .ok ((as.map fun _ => true).map PV.bl) := by
  rw [show (as.map fun _ => true).map PV.bl = (as.map PV.int).map fun _ => PV.bl true by simp]
  refine lcGo_map _ _ fun q hq => ⟨_, rfl, ?_⟩
  obtain ⟨d, _, rfl⟩ := List.mem_map.mp hq
  simp [f_is_whole, isW]
theorem f_is_poly_i (as : List Int) (h2 : 2 ≤ as.length) (h9 : as.length ≤ 9) : F_is_poly [.lst (as.map PV.int)] = .ok (.bl (decide (as.getLast? ≠ some 0))) := by
  refine (runF_eq (n := 2) (u := D_is_poly)).trans ?_
  show (D_is_poly [.val (.lst (as.map PV.int)), .un]).res = _
  have ln : lenP [.lst (as.map PV.int)] = .ok (.int as.length) := by simp
  have il : isiP "list" (.lst (as.map PV.int)) = .ok (.bl true) := by
    have e : kitB "list" "list" = some true := by decide +kernel
    simp only [isiP, kitP, tyN, e]
  have L := eLc_ok (vs := [1]) (it := iS (eV 0)) (ρ := [.val (.lst (as.map PV.int)), .un]) (items := as.map PV.int) rfl (by simp) (by simp; omega) (whole_lc as (.lst (as.map PV.int)))
  have al : allP [.lst ((as.map fun _ => true).map PV.bl)] = .ok (.bl true) := by rw [allP_bl, show (as.map fun _ => true).all id = true by simp]
  obtain ⟨l, x, rfl⟩ : ∃ l x, as = l ++ [x] := ⟨as.dropLast, as.getLast (by intro z; rw [z] at h2; simp at h2), (List.dropLast_concat_getLast _).symm⟩
  have lx : ixP (.lst ((l ++ [x]).map PV.int)) (.int (-1)) = .ok (.int x) := by rw [List.map_append]; exact ixP_last _ _
  have c1 : ¬ (((l ++ [x]).length : Int) < 2) := by omega
  have c2 : ¬ ((9 : Int) < ((l ++ [x]).length : Int)) := by omega
  unfold D_is_poly
  refine skp (by simp only [tOr_eq, tNt_eq, tB1_eq, e1_eq, e2_eq, eD_eq, aCons_eq, aNil_eq, eC_eq, eVo0, bind1, il, ln, asB_eq, Bool.not_true, if_neg Bool.false_ne_true, ltP_ii, gtP_ii, decide_eq_false c1, gt_iff_lt, decide_eq_false c2]) ?_
  simp only [bSeq_eq, sRet_eq, eAn_eq, eD_eq, aCons_eq, aNil_eq, L, bind1, al, asB_eq, if_true, e2_eq, e1_eq, eC_eq, eVo0, negP_eq, lx, neP_ii, st_ok, then_ret, res_ret]
  congr 2
  rw [List.getLast?_append]
  simp [bne]
  rw [Bool.eq_iff_iff, beq_iff_eq, decide_eq_true_eq]
theorem f_is_poly_ok {as : List Int} (h : PolyI as) : F_is_poly [.lst (as.map PV.int)] = .ok (.bl true) := by rw [f_is_poly_i as h.1 h.2.1, decide_eq_true h.2.2]
theorem f_want_poly_ok {x : PV} (h : F_is_poly [x] = .ok (.bl true)) : F_want_poly [x] = .ok .non := by
  refine (runF_eq (n := 1) (u := D_want_poly)).trans ?_
  show (D_want_poly [.val x]).res = _
  simp [D_want_poly, h]
abbrev Pt := Int × Int
def ptV (q : Pt) : PV := .tup [.int q.1, .int q.2]
noncomputable def pts (p : Int) : Nat → List Int → List Pt
  | _, [] => []
  | n, a :: r => if a = 0 then pts p (n + 1) r else ((n : Int), vp p a) :: pts p (n + 1) r
theorem pts_cons0 (p : Int) (n : Nat) (r : List Int) : pts p n (0 :: r) = pts p (n + 1) r := by rw [pts, if_pos rfl]
theorem pts_cons (p : Int) (n : Nat) {a : Int} (r : List Int) (h : a ≠ 0) : pts p n (a :: r) = ((n : Int), vp p a) :: pts p (n + 1) r := by rw [pts, if_neg h]
theorem tupP2' (a b : Int) : tupP [.int a, .int b] = .ok (ptV (a, b)) := tupP_ok (by simp)
theorem points_lc {p : Int} (hp : 2 ≤ p) (hp2 : p < 2 ^ 8000) (x : PV) : ∀ (as : List Int) (n : Nat),
    lcGo (gT (gsCons (gN 2) (gsCons (gN 3) gsNil))) (tB1 (e2 neP (eVo 3) (eC (.int 0)))) (eD tupP (aCons (eV 2) (aCons (eD F_exponent (aCons (eV 0) (aCons (eV 3) aNil))) aNil))) [.val (.int p), .val x, .un, .un] (enumL n (as.map PV.int)) = .ok ((pts p n as).map ptV)
  | [], n => by rw [List.map_nil, enumL]; rfl
  | a :: r, n => by
    have ih := points_lc hp hp2 x r (n + 1)
    rw [List.map_cons, enumL, lcGo]
    have g : gT (gsCons (gN 2) (gsCons (gN 3) gsNil)) (.tup [.int (n : Nat), .int a]) [.val (.int p), .val x, .un, .un] = some [.val (.int p), .val x, .val (.int n), .val (.int a)] := rfl
    rw [g]
    dsimp only
    by_cases h : a = 0
    · subst h
      have t : tB1 (e2 neP (eVo 3) (eC (.int 0))) [.val (.int p), .val x, .val (.int n), .val (.int 0)] = .ok false := by simp
      rw [t, pts_cons0]
      exact ih
    · have t : tB1 (e2 neP (eVo 3) (eC (.int 0))) [.val (.int p), .val x, .val (.int n), .val (.int a)] = .ok true := by simp [h]
      have e : eD tupP (aCons (eV 2) (aCons (eD F_exponent (aCons (eV 0) (aCons (eV 3) aNil))) aNil)) [.val (.int p), .val x, .val (.int n), .val (.int a)] = .ok (ptV (n, vp p a)) := by
        simp only [eD_eq, aCons_eq, aNil_eq, eV0, eVs, bind1, f_exp hp hp2 h, tupP2']
      rw [t]
      dsimp only
      rw [e]
      dsimp only
      rw [ih, pts_cons p n r h, List.map_cons]
theorem enum_len (as : List Int) (n : Nat) : (enumL n (as.map PV.int)).length = as.length := by rw [enumL_len, List.length_map]
theorem f_points {p : Int} (hp : p ∈ primesL) {as : List Int} (h : PolyI as) : F_points_of [.int p, .lst (as.map PV.int)] = .ok (.lst ((pts p 0 as).map ptV)) := by
  have hpb := primesL_le p hp
  refine (runF_eq (n := 4) (u := D_points_of)).trans ?_
  show (D_points_of [.val (.int p), .val (.lst (as.map PV.int)), .un, .un]).res = _
  have hp' : isP (.int p) = true := by simp [isP, hp]
  have L := eLc_ok (vs := [2, 3]) (it := iEn (eV 1)) (ρ := [.val (.int p), .val (.lst (as.map PV.int)), .un, .un]) (items := enumL 0 (as.map PV.int)) rfl (by simp [iEn]) (by rw [enum_len]; have := h.2.1; omega) (points_lc hpb.1 (by omega) (.lst (as.map PV.int)) as 0)
  unfold D_points_of
  refine skp (by simp [f_is_prime, hp']) ?_
  refine skp (by simp only [tNt_eq, tB1_eq, eD_eq, aCons_eq, aNil_eq, eV0, eVs, bind1, f_is_poly_ok h, asB_eq, Bool.not_true]) ?_
  simp only [bSeq_eq, sRet_eq, L, st_ok, then_ret, res_ret]
def ndl (a b c : Pt) : Bool := decide ((b.2 - a.2) * (c.1 - a.1) ≥ (c.2 - a.2) * (b.1 - a.1))
def popW : List Pt → Pt → List Pt
  | b :: a :: r, c => if ndl a b c = true then popW (a :: r) c else b :: a :: r
  | s, _ => s
def hullS (S s : List Pt) : List Pt := S.foldl (fun s c => c :: popW s c) s
def hull (S : List Pt) : List Pt := (hullS S []).reverse
def Sm (q : Pt) : Prop := q.1.natAbs < 2 ^ 100 ∧ q.2.natAbs < 2 ^ 100
theorem ptV0 (q : Pt) : ixP (ptV q) (.int 0) = .ok (.int q.1) := by simp [ptV]
theorem ptV1 (q : Pt) : ixP (ptV q) (.int 1) = .ok (.int q.2) := by simp [ptV]
theorem mul_sm {a b c d : Int} (ha : a.natAbs < 2 ^ 100) (hb : b.natAbs < 2 ^ 100) (hc : c.natAbs < 2 ^ 100) (hd : d.natAbs < 2 ^ 100) : mulP (.int (a - b)) (.int (c - d)) = .ok (.int ((a - b) * (c - d))) :=
  mulP_ii (okMul_of (m := 101) (n := 101) (by omega) (by omega) (by omega) (by omega) (by omega))
theorem f_needless (a b c : Pt) (ha : Sm a) (hb : Sm b) (hc : Sm c) : F_is_needless [ptV a, ptV b, ptV c] = .ok (.bl (ndl a b c)) := by
  refine (runF_eq (n := 3) (u := D_is_needless)).trans ?_
  show (D_is_needless [.val (ptV a), .val (ptV b), .val (ptV c)]).res = _
  simp only [D_is_needless, bSeq_eq, sRet_eq, e2_eq, eC_eq, eVo0, eVos, bind1, ptV0, ptV1, subP_ii, mul_sm hb.2 ha.2 hc.1 ha.1, mul_sm hc.2 ha.2 hb.1 ha.1, geP_ii, st_ok, then_ret, res_ret]
  rfl
theorem pop_run (x y : PV) (c : Pt) (hc : Sm c) : ∀ s : List Pt, (∀ q ∈ s, Sm q) → s.length ≤ 1000 →
    sWh (tAn (tB1 (e2 gtP (eD lenP (aCons (eVo 2) aNil)) (eC (.int 1)))) (tB1 (eD F_is_needless (aCons (e2 ixP (eVo 2) (e1 negP (eC (.int 2)))) (aCons (e2 ixP (eVo 2) (e1 negP (eC (.int 1)))) (aCons (eV 3) aNil)))))) (bSeq (sMut0 2 popP) bNil) [.val x, .val y, .own (s.reverse.map ptV), .val (ptV c)] = .next [.val x, .val y, .own ((popW s c).reverse.map ptV), .val (ptV c)]
  | [], _, _ => by rw [sWh_eq]; simp [popW]
  | [a], _, _ => by rw [sWh_eq]; simp [popW]
  | b :: a :: r, hs, hl => by
    have e : (b :: a :: r).reverse.map ptV = r.reverse.map ptV ++ [ptV a, ptV b] := by simp
    have x1 := ixP_last1 (r.reverse.map ptV) (ptV a) (ptV b)
    have x2 := ixP_last2 (r.reverse.map ptV) (ptV a) (ptV b)
    have n := f_needless a b c (hs a (by simp)) (hs b (by simp)) hc
    have ln : lenP [.lst (r.reverse.map ptV ++ [ptV a, ptV b])] = .ok (.int ((r.length : Int) + 2)) := by simp
    have g : decide ((r.length : Int) + 2 > 1) = true := decide_eq_true (by omega)
    have t : tAn (tB1 (e2 gtP (eD lenP (aCons (eVo 2) aNil)) (eC (.int 1)))) (tB1 (eD F_is_needless (aCons (e2 ixP (eVo 2) (e1 negP (eC (.int 2)))) (aCons (e2 ixP (eVo 2) (e1 negP (eC (.int 1)))) (aCons (eV 3) aNil))))) [.val x, .val y, .own (r.reverse.map ptV ++ [ptV a, ptV b]), .val (ptV c)] = .ok (ndl a b c) := by
      simp only [tAn_eq, tB1_eq, e2_eq, e1_eq, eD_eq, aCons_eq, aNil_eq, eC_eq, eV0, eVs, eVo0, eVo0', eVos, bind1, ln, gtP_ii, g, asB_eq, if_true, negP_eq, x1, x2, n]
    rw [sWh_eq, e, t]
    cases hn : ndl a b c with
    | false =>
      rw [popW, hn, if_neg Bool.false_ne_true, e]
    | true =>
      have ih := pop_run x y c hc (a :: r) (fun q hq => hs q (List.mem_cons_of_mem _ hq)) (by simp at hl ⊢; omega)
      have dl : popP (r.reverse.map ptV ++ [ptV a, ptV b]) = .ok ((a :: r).reverse.map ptV) := by
        rw [popP_eq (by simp)]
        congr 1
        rw [show r.reverse.map ptV ++ [ptV a, ptV b] = (r.reverse.map ptV ++ [ptV a]) ++ [ptV b] by simp, List.dropLast_concat]
        simp
      rw [popW, hn, if_pos rfl, ← ih]
      simp only [bSeq_eq, sMut0_eq, getOwn0, getOwnS, onOwn_some, dl, own_ok, List.set_cons_succ, List.set_cons_zero, then_next, bNil_eq]
theorem popW_sub (c : Pt) : ∀ s : List Pt, ∀ q ∈ popW s c, q ∈ s
  | [], _, h => h
  | [a], _, h => h
  | b :: a :: r, q, h => by
    rw [popW] at h
    split at h
    · exact List.mem_cons_of_mem _ (popW_sub c (a :: r) q h)
    · exact h
theorem popW_len (c : Pt) : ∀ s : List Pt, (popW s c).length ≤ s.length
  | [] => Nat.le_refl _
  | [a] => Nat.le_refl _
  | b :: a :: r => by
    rw [popW]
    split
    · have := popW_len c (a :: r)
      simp at this ⊢; omega
    · exact Nat.le_refl _
theorem corner_loop (x y : PV) : ∀ (S s : List Pt) (s3 : Slot), (∀ q ∈ S, Sm q) → (∀ q ∈ s, Sm q) → s.length + S.length ≤ 1000 → ∃ s3',
    forL (gN 3) (bSeq (sWh (tAn (tB1 (e2 gtP (eD lenP (aCons (eVo 2) aNil)) (eC (.int 1)))) (tB1 (eD F_is_needless (aCons (e2 ixP (eVo 2) (e1 negP (eC (.int 2)))) (aCons (e2 ixP (eVo 2) (e1 negP (eC (.int 1)))) (aCons (eV 3) aNil)))))) (bSeq (sMut0 2 popP) bNil)) (bSeq (sMut 2 appP (eV 3)) bNil)) (S.map ptV) [.val x, .val y, .own (s.reverse.map ptV), s3] = .next [.val x, .val y, .own ((hullS S s).reverse.map ptV), s3']
  | [], s, s3, _, _, _ => ⟨s3, by rw [List.map_nil, forL_nil]; rfl⟩
  | c :: S, s, s3, hS, hs, hl => by
    rw [List.length_cons] at hl
    have hc := hS c List.mem_cons_self
    have w := pop_run x y c hc s hs (by omega)
    have pl := popW_len c s
    have ap : appP ((popW s c).reverse.map ptV) (ptV c) = .ok ((c :: popW s c).reverse.map ptV) := by rw [appP_ok (by simp; omega)]; simp
    obtain ⟨s3', ih⟩ := corner_loop x y S (c :: popW s c) (.val (ptV c)) (fun q hq => hS q (List.mem_cons_of_mem _ hq)) (fun q hq => by
      rcases List.mem_cons.mp hq with rfl | hq
      · exact hc
      · exact hs q (popW_sub c s q hq)) (by rw [List.length_cons]; omega)
    refine ⟨s3', ?_⟩
    rw [show hullS (c :: S) s = hullS S (c :: popW s c) from rfl, ← ih, List.map_cons, forL_cons, gN_eq, onR_some]
    simp only [List.set_cons_succ, List.set_cons_zero]
    rw [bSeq_eq, w, then_next]
    simp only [bSeq_eq, sMut_eq, getOwn0, getOwnS, onOwn_some, eV0, eVs, st_ok, ap, own_ok, List.set_cons_succ, List.set_cons_zero, then_next, bNil_eq, fo_next]
theorem f_corners_of {x y : PV} {S : List Pt} (h : F_points_of [x, y] = .ok (.lst (S.map ptV))) (hS : ∀ q ∈ S, Sm q) (hl : S.length ≤ 1000) : F_corners_of [x, y] = .ok (.lst ((hull S).map ptV)) := by
  refine (runF_eq (n := 4) (u := D_corners_of)).trans ?_
  show (D_corners_of [.val x, .val y, .un, .un]).res = _
  have t0 : lstP [] = .ok (.lst []) := lstP_ok (by simp)
  obtain ⟨s3, lp⟩ := corner_loop x y S [] .un hS (fun _ z => nomatch z) (by simp; omega)
  unfold D_corners_of
  refine stpN (ρ' := [.val x, .val y, .own [], .un]) (by simp [t0]) ?_
  refine stpFor (S.map ptV) _ (by simp [h]) lp ?_
  simp [hull]
def Abv (q a b : Pt) : Prop := (b.2 - a.2) * (q.1 - a.1) ≤ (q.2 - a.2) * (b.1 - a.1)
def Rises (a b c : Pt) : Prop := (b.2 - a.2) * (c.1 - b.1) < (c.2 - b.2) * (b.1 - a.1)
theorem abv_left {a b c q : Pt} (h : Abv q a b) (hb : Abv b a c) (h1 : a.1 ≤ q.1) (h2 : q.1 ≤ b.1) (h3 : a.1 < b.1) (h4 : b.1 < c.1) : Abv q a c := by
  unfold Abv at *
  obtain ⟨x, hx⟩ : ∃ x, x = q.1 - a.1 := ⟨_, rfl⟩
  obtain ⟨y, hy⟩ : ∃ y, y = b.1 - a.1 := ⟨_, rfl⟩
  obtain ⟨z, hz⟩ : ∃ z, z = c.1 - a.1 := ⟨_, rfl⟩
  rw [← hx, ← hy] at h
  rw [← hy, ← hz] at hb
  rw [← hx, ← hz]
  have m1 := Int.mul_le_mul_of_nonneg_right h (show 0 ≤ z by omega)
  have m2 := Int.mul_le_mul_of_nonneg_right hb (show 0 ≤ x by omega)
  refine Int.le_of_mul_le_mul_right (a := y) ?_ (by omega)
  grind
theorem abv_right {a b c q : Pt} (h : Abv q b c) (hb : Abv b a c) (h1 : b.1 ≤ q.1) (h2 : q.1 ≤ c.1) (h3 : a.1 < b.1) (h4 : b.1 < c.1) : Abv q a c := by
  unfold Abv at *
  obtain ⟨x, hx⟩ : ∃ x, x = c.1 - q.1 := ⟨_, rfl⟩
  obtain ⟨y, hy⟩ : ∃ y, y = c.1 - b.1 := ⟨_, rfl⟩
  obtain ⟨z, hz⟩ : ∃ z, z = c.1 - a.1 := ⟨_, rfl⟩
  have e1 : q.1 = c.1 - x := by omega
  have e2 : b.1 = c.1 - y := by omega
  have e3 : a.1 = c.1 - z := by omega
  rw [e1, e2] at h
  rw [e2, e3] at hb
  rw [e1, e3]
  have m1 := Int.mul_le_mul_of_nonneg_right h (show 0 ≤ z by omega)
  have m2 := Int.mul_le_mul_of_nonneg_right hb (show 0 ≤ x by omega)
  refine Int.le_of_mul_le_mul_right (a := y) ?_ (by omega)
  grind
theorem abv_self_l (a b : Pt) : Abv a a b := by unfold Abv; rw [Int.sub_self, Int.mul_zero, Int.sub_self, Int.zero_mul]; exact Int.le_refl _
theorem abv_self_r (a b : Pt) : Abv b a b := Int.le_refl _
/-- the stack, its last point first, of a list of points -/
def Cv (S : List Pt) : List Pt → Prop
  | [] => True
  | [a] => a ∈ S
  | b :: a :: r => b ∈ S ∧ a.1 < b.1 ∧ (∀ q ∈ S, a.1 ≤ q.1 → q.1 ≤ b.1 → Abv q a b) ∧ (∀ z, r.head? = some z → Rises z a b) ∧ Cv S (a :: r)
theorem Cv.mem {S : List Pt} : ∀ {s : List Pt}, Cv S s → ∀ q ∈ s, q ∈ S
  | [], _, _, h => nomatch h
  | [a], h, q, hq => by rw [List.mem_singleton.mp hq]; exact h
  | b :: a :: r, h, q, hq => by
    rcases List.mem_cons.mp hq with rfl | hq
    · exact h.1
    · exact Cv.mem h.2.2.2.2 q hq
theorem Cv.more {S : List Pt} {c : Pt} (hS : ∀ q ∈ S, q.1 < c.1) : ∀ {s : List Pt}, Cv S s → Cv (S ++ [c]) s
  | [], _ => trivial
  | [a], h => List.mem_append_left _ h
  | b :: a :: r, h => by
    refine ⟨List.mem_append_left _ h.1, h.2.1, fun q hq h1 h2 => ?_, h.2.2.2.1, Cv.more hS h.2.2.2.2⟩
    rcases List.mem_append.mp hq with hq | hq
    · exact h.2.2.1 q hq h1 h2
    · rw [List.mem_singleton.mp hq] at h2
      have := hS b h.1
      omega
theorem not_ndl {a b c : Pt} (h : ndl a b c = false) : (b.2 - a.2) * (c.1 - a.1) < (c.2 - a.2) * (b.1 - a.1) := by
  unfold ndl at h
  have := of_decide_eq_false h
  omega
theorem rises_of {a b c : Pt} (h : ndl a b c = false) : Rises a b c := by
  have := not_ndl h
  unfold Rises
  grind
theorem pop_cv {S : List Pt} {c : Pt} (hS : ∀ q ∈ S, q.1 < c.1) : ∀ {s : List Pt} {t : Pt}, s.head? = some t → Cv S s → (∀ q ∈ S, t.1 ≤ q.1 → Abv q t c) →
    ∃ t' r, popW s c = t' :: r ∧ Cv S (t' :: r) ∧ (∀ q ∈ S, t'.1 ≤ q.1 → Abv q t' c) ∧ (∀ z, r.head? = some z → Rises z t' c) ∧ (t' :: r).getLast? = s.getLast?
  | [], _, h, _, _ => nomatch h
  | [a], t, h, hc, hq => by
    cases h
    exact ⟨a, [], rfl, hc, hq, (fun _ z => nomatch z), rfl⟩
  | b :: a :: r, t, h, hc, hq => by
    cases h
    rw [popW]
    cases hn : ndl a b c with
    | false =>
      rw [if_neg Bool.false_ne_true]
      exact ⟨b, a :: r, rfl, hc, hq, fun z hz => by cases hz; exact rises_of hn, rfl⟩
    | true =>
      rw [if_pos rfl]
      have ab : Abv b a c := by
        unfold ndl at hn
        have := of_decide_eq_true hn
        unfold Abv
        omega
      have bc := hS b hc.1
      obtain ⟨t', r', e, h1, h2, h3, h4⟩ := pop_cv hS (s := a :: r) rfl hc.2.2.2.2 (fun q hm hx => by
        rcases Int.lt_or_le q.1 b.1 with g | g
        · exact abv_left (hc.2.2.1 q hm hx (by omega)) ab hx (by omega) hc.2.1 bc
        · exact abv_right (hq q hm g) ab g (by have := hS q hm; omega) hc.2.1 bc)
      exact ⟨t', r', e, h1, h2, h3, by rw [h4]; simp⟩
/-- points from the left to the right -/
def Srt : List Pt → Prop
  | [] => True
  | [_] => True
  | a :: b :: r => a.1 < b.1 ∧ Srt (b :: r)
theorem hull_inv : ∀ (T S s : List Pt), Cv S s → (S = [] ∧ s = [] ∨ ∃ t, s.head? = some t ∧ S.getLast? = some t ∧ ∀ q ∈ S, q.1 ≤ t.1 ∧ (q.1 = t.1 → q = t)) → s.getLast? = S.head? → Srt (S ++ T) → (∀ q ∈ S, ∀ c ∈ T, q.1 < c.1) →
    Cv (S ++ T) (hullS T s) ∧ (hullS T s).head? = (S ++ T).getLast? ∧ (hullS T s).getLast? = (S ++ T).head?
  | [], S, s, h, ht, hb, _, _ => by
    rw [List.append_nil]
    refine ⟨h, ?_, hb⟩
    rcases ht with ⟨rfl, rfl⟩ | ⟨t, h1, h2, _⟩
    · rfl
    · rw [h2]; exact h1
  | c :: T, S, s, h, ht, hb, hs, hx => by
    have hS : ∀ q ∈ S, q.1 < c.1 := fun q hq => hx q hq c List.mem_cons_self
    have after : ∀ T' : List Pt, Srt (S ++ c :: T') → ∀ d ∈ T', c.1 < d.1 := by
      have aux : ∀ (T' : List Pt) (c : Pt), Srt (c :: T') → ∀ d ∈ T', c.1 < d.1 := by
        intro T'
        induction T' with
        | nil => exact fun c _ d hd => nomatch hd
        | cons e T' ih =>
          intro c hc d hd
          rcases List.mem_cons.mp hd with rfl | hd
          · exact hc.1
          · have := ih e hc.2 d hd
            have := hc.1
            omega
      have tl : ∀ (S : List Pt) (l : List Pt), Srt (S ++ l) → Srt l := by
        intro S
        induction S with
        | nil => exact fun l h => h
        | cons a S ih =>
          intro l h
          refine ih l ?_
          cases hS : S ++ l with
          | nil => trivial
          | cons b r =>
            rw [List.cons_append, hS] at h
            exact h.2
      exact fun T' h => aux T' c (tl S _ h)
    have nx : ∀ q ∈ S ++ [c], ∀ d ∈ T, q.1 < d.1 := fun q hq d hd => by
      rcases List.mem_append.mp hq with hq | hq
      · exact hx q hq d (List.mem_cons_of_mem _ hd)
      · rw [List.mem_singleton.mp hq]; exact after T hs d hd
    have e : S ++ c :: T = (S ++ [c]) ++ T := by simp
    rw [e] at hs ⊢
    rw [show hullS (c :: T) s = hullS T (c :: popW s c) from rfl]
    have top : ∃ t, (c :: popW s c).head? = some t ∧ (S ++ [c]).getLast? = some t ∧ ∀ q ∈ S ++ [c], q.1 ≤ t.1 ∧ (q.1 = t.1 → q = t) := by
      refine ⟨c, rfl, by simp, fun q hq => ?_⟩
      rcases List.mem_append.mp hq with hq | hq
      · have := hS q hq
        exact ⟨by omega, fun z => by omega⟩
      · rw [List.mem_singleton.mp hq]; exact ⟨Int.le_refl _, fun _ => rfl⟩
    rcases ht with ⟨rfl, rfl⟩ | ⟨t, h1, h2, h3⟩
    · refine hull_inv T ([] ++ [c]) [c] ?_ (.inr top) rfl hs nx
      show c ∈ [] ++ [c]
      simp
    · obtain ⟨t', r, e', g1, g2, g3, g4⟩ := pop_cv hS h1 h (fun q hq hxq => by
        obtain ⟨z1, z2⟩ := h3 q hq
        rw [z2 (by omega)]
        exact abv_self_l t c)
      refine hull_inv T (S ++ [c]) (c :: popW s c) ?_ (.inr top) ?_ hs nx
      · rw [e']
        refine ⟨by simp, hS t' (g1.mem t' List.mem_cons_self), fun q hq hq1 hq2 => ?_, g3, g1.more hS⟩
        rcases List.mem_append.mp hq with hq | hq
        · exact g2 q hq hq1
        · rw [List.mem_singleton.mp hq]; exact abv_self_r t' c
      · rw [e']
        rw [show (c :: t' :: r).getLast? = (t' :: r).getLast? by simp, g4, hb]
        cases S with
        | nil => cases h2
        | cons a S => rfl
theorem hull_ok {S : List Pt} (h : Srt S) : Cv S (hull S).reverse ∧ (hull S).head? = S.head? ∧ (hull S).getLast? = S.getLast? := by
  have := hull_inv S [] [] trivial (.inl ⟨rfl, rfl⟩) rfl (by simpa using h) (fun _ z => nomatch z)
  rw [List.nil_append] at this
  unfold hull
  rw [List.reverse_reverse]
  refine ⟨this.1, ?_, ?_⟩
  · rw [List.head?_reverse]; exact this.2.2
  · rw [List.getLast?_reverse]; exact this.2.1
end PM
set_option Elab.async false
set_option linter.all false
set_option maxRecDepth 100000
set_option autoImplicit false
set_option exponentiation.threshold 20000
namespace PM
open PySem PySem.Spec L2 PL
open PyProof.Rows hiding St
theorem sqN {c k : Rho → Out} {ρ ρ' : Rho} {o : Out} (h : c ρ = .next ρ') (g : k ρ' = o) : bSeq c k ρ = o := by rw [bSeq_eq, h, then_next]; exact g
theorem sqS {i : Nat} {f : Rho → R PV} {k : Rho → Out} {ρ : Rho} (p : PV) {o : Out} (h : f ρ = .ok p) (g : k (ρ.set i (.val p)) = o) : bSeq (sSet i f) k ρ = o := sqN (by rw [sSet_eq, h, st_ok]) g
theorem sqK {t : Rho → R Bool} {u k : Rho → Out} {ρ : Rho} {o : Out} (h : t ρ = .ok false) (g : k ρ = o) : bSeq (sIf t u bNil) k ρ = o := sqN (by rw [sIf_eq, h, stB_ok, if_neg Bool.false_ne_true, bNil_eq]) g
theorem sqF {it : Rho → R (List PV)} {tgt : PV → Rho → Option Rho} {body k : Rho → Out} {ρ ρ' : Rho} {o : Out} (items : List PV) (hi : it ρ = .ok items) (hf : forL tgt body items ρ = .next ρ') (g : k ρ' = o) : bSeq (sFor it tgt body) k ρ = o := sqN (by rw [sFor_eq, hi, stL_ok, hf]) g
def pcV (a b : Pt) : PV := .tup [fracV (ftop (a.2 - b.2) (b.1 - a.1)) (fbot (a.2 - b.2) (b.1 - a.1)), .int (b.1 - a.1)]
def pcsV : List Pt → List PV
  | b :: a :: r => pcV a b :: pcsV (a :: r)
  | _ => []
def Dwn : List Pt → Prop
  | b :: a :: r => a.1 < b.1 ∧ Dwn (a :: r)
  | _ => True
theorem Cv.dwn {S : List Pt} : ∀ {s : List Pt}, Cv S s → Dwn s
  | [], _ => trivial
  | [_], _ => trivial
  | _ :: _ :: _, h => ⟨h.2.1, Cv.dwn h.2.2.2.2⟩
theorem rngDn_zero (lo : Int) : rngDn lo 0 = [] := rfl
theorem rngDn_succ (lo : Int) (n : Nat) : rngDn lo (n + 1) = .int lo :: rngDn (lo - 1) n := by
  unfold rngDn
  rw [List.range_succ_eq_map, List.map_cons, List.map_map]
  congr 1
  · congr 1; omega
  · refine List.map_congr_left fun i _ => ?_
    show PV.int (lo - ((i + 1 : Nat) : Int)) = _
    congr 1; omega
theorem ptV_ix {l : List Pt} {q : Pt} {k : Nat} (h : l[k]? = some q) : ixP (.lst (l.map ptV)) (.int k) = .ok (ptV q) :=
  ixP_lst (by omega) (by rw [Int.toNat_natCast, List.getElem?_map, h]; rfl)
theorem rev_at1 (pre r : List Pt) (a b : Pt) : (pre ++ b :: a :: r).reverse[r.length + 1]? = some b := by
  rw [List.reverse_append, List.reverse_cons, List.reverse_cons, List.append_assoc, List.append_assoc, List.getElem?_append_right (by simp)]
  simp
theorem rev_at0 (pre r : List Pt) (a b : Pt) : (pre ++ b :: a :: r).reverse[r.length]? = some a := by
  rw [List.reverse_append, List.reverse_cons, List.reverse_cons, List.append_assoc, List.append_assoc, List.getElem?_append_right (by simp)]
  simp
theorem piece_loop (x y : PV) (S : List Pt) (hS : ∀ q ∈ S, Sm q) (hl : S.length ≤ 1000) : ∀ (r pre : List Pt) (b : Pt) (out : List PV) (s4 s5 s6 s7 s8 : Slot), S = pre ++ b :: r → Dwn (b :: r) → out.length + r.length ≤ 1000 → ∃ s4' s5' s6' s7' s8',
    forL (gN 4) (bSeq (sTo (gT (gsCons (gN 5) (gsCons (gN 6) gsNil))) (e2 ixP (eVo 2) (e2 subP (eVo 4) (eC (.int 1))))) (bSeq (sTo (gT (gsCons (gN 7) (gsCons (gN 8) gsNil))) (e2 ixP (eVo 2) (eVo 4))) (bSeq (sMut 3 appP (eD tupP (aCons (eD F_fraction (aCons (e2 subP (eVo 6) (eVo 8)) (aCons (e2 subP (eVo 7) (eVo 5)) aNil))) (aCons (e2 subP (eVo 7) (eVo 5)) aNil)))) bNil))) (rngDn r.length r.length) [.val x, .val y, .val (.lst (S.reverse.map ptV)), .own out, s4, s5, s6, s7, s8] = .next [.val x, .val y, .val (.lst (S.reverse.map ptV)), .own (out ++ pcsV (b :: r)), s4', s5', s6', s7', s8']
  | [], pre, b, out, s4, s5, s6, s7, s8, e, _, _ => ⟨s4, s5, s6, s7, s8, by rw [List.length_nil, rngDn_zero, forL_nil]; simp [pcsV]⟩
  | a :: r, pre, b, out, s4, s5, s6, s7, s8, e, hd, hlo => by
    rw [List.length_cons] at hlo
    have i1 : ixP (.lst (S.reverse.map ptV)) (.int ((r.length : Int) + 1)) = .ok (ptV b) := ptV_ix (k := r.length + 1) (by rw [e]; exact rev_at1 pre r a b)
    have i0 : ixP (.lst (S.reverse.map ptV)) (.int (r.length : Int)) = .ok (ptV a) := ptV_ix (k := r.length) (by rw [e]; exact rev_at0 pre r a b)
    have sb := hS b (by rw [e]; simp)
    have sa := hS a (by rw [e]; simp)
    have fr := f_fraction (a.2 - b.2) (b.1 - a.1) (by have := hd.1; omega) (by have := sb.1; have := sa.1; omega)
    obtain ⟨s4', s5', s6', s7', s8', ih⟩ := piece_loop x y S hS hl r (pre ++ [b]) a (out ++ [pcV a b]) (.val (.int ((r.length : Int) + 1))) (.val (.int a.1)) (.val (.int a.2)) (.val (.int b.1)) (.val (.int b.2)) (by rw [e]; simp) hd.2 (by rw [List.length_append, List.length_singleton]; omega)
    have t2 : tupP [fracV (ftop (a.2 - b.2) (b.1 - a.1)) (fbot (a.2 - b.2) (b.1 - a.1)), .int (b.1 - a.1)] = .ok (pcV a b) := tupP_ok (by simp)
    have ap : appP out (pcV a b) = .ok (out ++ [pcV a b]) := appP_ok (by omega)
    have g1 : ∀ s4 s5 s6 s7 s8, gT (gsCons (gN 5) (gsCons (gN 6) gsNil)) (ptV a) [.val x, .val y, .val (.lst (S.reverse.map ptV)), .own out, s4, s5, s6, s7, s8] = some [.val x, .val y, .val (.lst (S.reverse.map ptV)), .own out, s4, .val (.int a.1), .val (.int a.2), s7, s8] := fun _ _ _ _ _ => rfl
    have g2 : ∀ s4 s5 s6 s7 s8, gT (gsCons (gN 7) (gsCons (gN 8) gsNil)) (ptV b) [.val x, .val y, .val (.lst (S.reverse.map ptV)), .own out, s4, s5, s6, s7, s8] = some [.val x, .val y, .val (.lst (S.reverse.map ptV)), .own out, s4, s5, s6, .val (.int b.1), .val (.int b.2)] := fun _ _ _ _ _ => rfl
    refine ⟨s4', s5', s6', s7', s8', ?_⟩
    rw [show out ++ pcsV (b :: a :: r) = (out ++ [pcV a b]) ++ pcsV (a :: r) by simp [pcsV], ← ih, show (((a :: r).length : Nat) : Int) = (r.length : Int) + 1 by simp, List.length_cons, rngDn_succ, show (r.length : Int) + 1 - 1 = r.length by omega, forL_cons, gN_eq, onR_some]
    simp only [List.set_cons_succ, List.set_cons_zero, bSeq_eq, sTo_eq, e2_eq, eC_eq, eVo0, eVos, bind1, subP_ii, show (r.length : Int) + 1 - 1 = r.length by omega, i0, i1, st_ok, g1, g2, onR_some, then_next, sMut_eq, getOwn0, getOwnS, onOwn_some, eD_eq, aCons_eq, aNil_eq, fr, t2, ap, own_ok, bNil_eq, fo_next]
theorem f_sizes_of {x y : PV} {b : Pt} {s : List Pt} (h : F_corners_of [x, y] = .ok (.lst ((b :: s).reverse.map ptV))) (hS : ∀ q ∈ b :: s, Sm q) (hd : Dwn (b :: s)) (hl : s.length < 1000) :
    F_sizes_of [x, y] = .ok (.tup [.int (((b :: s).getLast (by simp)).1), .lst (pcsV (b :: s))]) := by
  obtain ⟨s4, s5, s6, s7, s8, lp⟩ := piece_loop x y (b :: s) hS (by rw [List.length_cons]; omega) s [] b [] .un .un .un .un .un rfl hd (by simp; omega)
  refine (runF_eq (n := 9) (u := D_sizes_of)).trans ?_
  show (D_sizes_of [.val x, .val y, .un, .un, .un, .un, .un, .un, .un]).res = _
  have t0 : lstP [] = .ok (.lst []) := lstP_ok (by simp)
  have ln : lenP [.lst ((b :: s).reverse.map ptV)] = .ok (.int ((s.length : Int) + 1)) := by simp
  have r3 : rng3 [.int (s.length : Int), .int 0, .int (-1)] = .ok (rngDn s.length s.length) := by rw [rng3_sm (by omega) (by omega) (by omega) (by omega)]; rfl
  have i0 : ixP (.lst ((b :: s).reverse.map ptV)) (.int 0) = .ok (ptV ((b :: s).getLast (by simp))) := by
    refine ptV_ix (k := 0) ?_
    rw [← List.head?_eq_getElem?, List.head?_reverse, List.getLast?_eq_some_getLast]
  have j0 : ixP (ptV ((b :: s).getLast (by simp))) (.int 0) = .ok (.int ((b :: s).getLast (by simp)).1) := ptV0 _
  obtain ⟨X, hX⟩ : ∃ X, X = (b :: s).reverse.map ptV := ⟨_, rfl⟩
  rw [← hX] at lp ln i0 h
  obtain ⟨q, hq⟩ : ∃ q, q = (b :: s).getLast (by simp) := ⟨_, rfl⟩
  rw [← hq] at i0 j0 ⊢
  unfold D_sizes_of
  refine stpN (ρ' := [.val x, .val y, .val (.lst X), .un, .un, .un, .un, .un, .un]) (by simp [h]) ?_
  refine stpN (ρ' := [.val x, .val y, .val (.lst X), .own [], .un, .un, .un, .un, .un]) (by simp [t0]) ?_
  refine stpFor (rngDn s.length s.length) _ (by
    simp only [iR_eq, e2_eq, e1_eq, eD_eq, aCons_eq, aNil_eq, eC_eq, eVo0, eVos, bind1, ln, subP_ii, show (s.length : Int) + 1 - 1 = s.length by omega, negP_eq, r3]) lp ?_
  rw [List.nil_append]
  obtain ⟨Y, hY⟩ : ∃ Y, Y = pcsV (b :: s) := ⟨_, rfl⟩
  rw [← hY]
  have t2 : tupP [.int q.1, .lst Y] = .ok (.tup [.int q.1, .lst Y]) := tupP_ok (by simp)
  simp [i0, j0, t2]
theorem srt_mem : ∀ {S : List Pt} {a : Pt}, Srt (a :: S) → ∀ q ∈ S, a.1 < q.1
  | [], _, _, _, h => nomatch h
  | b :: S, a, h, q, hq => by
    rcases List.mem_cons.mp hq with rfl | hq
    · exact h.1
    · have := srt_mem h.2 q hq
      have := h.1
      omega
theorem pts_ge (p : Int) : ∀ (as : List Int) (n : Nat), ∀ q ∈ pts p n as, (n : Int) ≤ q.1
  | [], _, _, h => nomatch h
  | a :: r, n, q, h => by
    by_cases z : a = 0
    · subst z
      rw [pts_cons0] at h
      have := pts_ge p r (n + 1) q h
      omega
    · rw [pts_cons p n r z] at h
      rcases List.mem_cons.mp h with rfl | h
      · exact Int.le_refl _
      · have := pts_ge p r (n + 1) q h
        omega
theorem pts_srt (p : Int) : ∀ (as : List Int) (n : Nat), Srt (pts p n as)
  | [], _ => trivial
  | a :: r, n => by
    by_cases z : a = 0
    · subst z
      rw [pts_cons0]
      exact pts_srt p r (n + 1)
    · rw [pts_cons p n r z]
      have ih := pts_srt p r (n + 1)
      have g := pts_ge p r (n + 1)
      cases h : pts p (n + 1) r with
      | nil => trivial
      | cons b l =>
        rw [h] at ih g
        exact ⟨by have := g b List.mem_cons_self; show (n : Int) < b.1; omega, ih⟩
theorem vp_le {p a : Int} (hp : 2 ≤ p) (h : a ≠ 0) {m : Nat} (hm : a.natAbs < 2 ^ m) : 0 ≤ vp p a ∧ vp p a < m := by
  obtain ⟨c, v, e, hc, hv⟩ := vp_spec hp h
  have hc0 : c ≠ 0 := fun z => by rw [z] at hc; simp at hc
  rw [hv]
  refine ⟨by omega, ?_⟩
  have h1 : (2 : Int).natAbs ^ v ≤ a.natAbs := by
    rw [e, Int.natAbs_mul, Int.natAbs_pow]
    calc (2 : Int).natAbs ^ v ≤ p.natAbs ^ v := Nat.pow_le_pow_left (by omega) v
      _ = 1 * p.natAbs ^ v := by rw [Nat.one_mul]
      _ ≤ c.natAbs * p.natAbs ^ v := Nat.mul_le_mul_right _ (by omega)
  have h2 : 2 ^ v < 2 ^ m := by
    have : (2 : Int).natAbs = 2 := rfl
    rw [this] at h1
    omega
  have := (Nat.pow_lt_pow_iff_right (by omega : 1 < 2)).mp h2
  omega
theorem pts_sm {p : Int} (hp : 2 ≤ p) : ∀ (as : List Int) (n : Nat), (∀ a ∈ as, a.natAbs < 2 ^ 1000) → n + as.length ≤ 1000 → ∀ q ∈ pts p n as, Sm q
  | [], _, _, _, _, h => nomatch h
  | a :: r, n, hb, hl, q, h => by
    rw [List.length_cons] at hl
    have ih := pts_sm hp r (n + 1) (fun a ha => hb a (List.mem_cons_of_mem _ ha)) (by omega)
    by_cases z : a = 0
    · subst z
      rw [pts_cons0] at h
      exact ih q h
    · rw [pts_cons p n r z] at h
      rcases List.mem_cons.mp h with rfl | h
      · have := vp_le hp z (hb a List.mem_cons_self)
        exact ⟨by show ((n : Nat) : Int).natAbs < _; omega, by show (vp p a).natAbs < _; omega⟩
      · exact ih q h
theorem pts_len (p : Int) : ∀ (as : List Int) (n : Nat), (pts p n as).length ≤ as.length
  | [], _ => Nat.le_refl _
  | a :: r, n => by
    have ih := pts_len p r (n + 1)
    by_cases z : a = 0
    · subst z
      rw [pts_cons0]
      simp only [List.length_cons]; omega
    · rw [pts_cons p n r z]
      simp only [List.length_cons]; omega
theorem pts_last (p : Int) : ∀ (as : List Int) (n : Nat) (x : Int), x ≠ 0 → pts p n (as ++ [x]) = pts p n as ++ [(((n + as.length : Nat) : Int), vp p x)]
  | [], n, x, h => by
    rw [List.nil_append, pts_cons p n [] h]
    simp [pts]
  | a :: r, n, x, h => by
    have ih := pts_last p r (n + 1) x h
    have e : n + (a :: r).length = n + 1 + r.length := by rw [List.length_cons]; omega
    rw [e, List.cons_append]
    by_cases z : a = 0
    · subst z
      rw [pts_cons0, pts_cons0, ih]
    · rw [pts_cons p n _ z, pts_cons p n _ z, ih, List.cons_append]
/-- what is told of a polynomial -/
theorem f_told {p : Int} (hp : p ∈ primesL) {as : List Int} (h : PolyI as) (hb : ∀ a ∈ as, a.natAbs < 2 ^ 1000) :
    ∃ (b : Pt) (s : List Pt), (hull (pts p 0 as)).reverse = b :: s ∧ Cv (pts p 0 as) (b :: s) ∧ (∀ q ∈ b :: s, Sm q) ∧ s.length < 9 ∧
      (pts p 0 as).getLast? = some b ∧ (pts p 0 as).head? = (b :: s).getLast? ∧ Srt (pts p 0 as) ∧
      F_points_of [.int p, .lst (as.map PV.int)] = .ok (.lst ((pts p 0 as).map ptV)) ∧
      F_corners_of [.int p, .lst (as.map PV.int)] = .ok (.lst ((b :: s).reverse.map ptV)) ∧
      F_sizes_of [.int p, .lst (as.map PV.int)] = .ok (.tup [.int (((b :: s).getLast (by simp)).1), .lst (pcsV (b :: s))]) := by
  have hpb := primesL_le p hp
  have P := f_points hp h
  have sm := pts_sm hpb.1 as 0 hb (by have := h.2.1; omega)
  have sr := pts_srt p as 0
  have pl := pts_len p as 0
  have h9 := h.2.1
  have C := f_corners_of P sm (by omega)
  obtain ⟨k1, k2, k3⟩ := hull_ok sr
  have ne : (pts p 0 as) ≠ [] := fun z => by
    have h2 := h.1
    obtain ⟨l, x, rfl⟩ : ∃ l x, as = l ++ [x] := ⟨as.dropLast, as.getLast (by intro z; rw [z] at h2; simp at h2), (List.dropLast_concat_getLast _).symm⟩
    have hx : x ≠ 0 := fun z => h.2.2 (by rw [z]; simp)
    rw [pts_last p l 0 x hx] at z
    simp at z
  have hn : hull (pts p 0 as) ≠ [] := fun z => by
    rw [z] at k2
    cases hq : pts p 0 as with
    | nil => exact ne hq
    | cons a l => rw [hq] at k2; exact nomatch k2
  cases hr : (hull (pts p 0 as)).reverse with
  | nil => exact absurd (List.reverse_eq_nil_iff.mp hr) hn
  | cons b s =>
    rw [hr] at k1
    have e : hull (pts p 0 as) = (b :: s).reverse := by rw [← hr, List.reverse_reverse]
    have smh : ∀ q ∈ b :: s, Sm q := fun q hq => sm q (k1.mem q hq)
    have len : (b :: s).length ≤ (pts p 0 as).length := by
      have aux : ∀ (T s : List Pt), (hullS T s).length ≤ s.length + T.length := by
        intro T
        induction T with
        | nil => intro s; exact Nat.le_refl _
        | cons c T ih =>
          intro s
          have := ih (c :: popW s c)
          have := popW_len c s
          rw [show hullS (c :: T) s = hullS T (c :: popW s c) from rfl]
          simp only [List.length_cons] at *
          omega
      have := aux (pts p 0 as) []
      have e2 : (hull (pts p 0 as)).length = (hullS (pts p 0 as) []).length := by unfold hull; rw [List.length_reverse]
      rw [← hr, List.length_reverse, e2]
      simpa using this
    rw [List.length_cons] at len
    rw [e] at C k2 k3
    refine ⟨b, s, rfl, k1, smh, by omega, ?_, ?_, sr, P, C, f_sizes_of C smh k1.dwn (by omega)⟩
    · rw [← k3, List.getLast?_reverse]; rfl
    · rw [← k2, List.head?_reverse]
theorem Cv.at {S : List Pt} : ∀ {s : List Pt}, Cv S s → ∀ k, k + 1 < s.length → ∃ a c, s.reverse[k]? = some a ∧ s.reverse[k + 1]? = some c ∧ a.1 < c.1 ∧ c ∈ S ∧ a ∈ S ∧ (∀ q ∈ S, a.1 ≤ q.1 → q.1 ≤ c.1 → Abv q a c) ∧ (∀ z, 1 ≤ k → s.reverse[k - 1]? = some z → Rises z a c)
  | [], _, k, hk => by simp at hk
  | [_], _, k, hk => by simp at hk
  | b :: a :: r, h, k, hk => by
    rw [List.length_cons, List.length_cons] at hk
    by_cases e : k + 1 < (a :: r).length
    · obtain ⟨x, y, h1, h2, h3⟩ := Cv.at h.2.2.2.2 k e
      have l : (a :: r).reverse.length = r.length + 1 := by rw [List.length_reverse, List.length_cons]
      rw [List.length_cons] at e
      refine ⟨x, y, by rw [List.reverse_cons, List.getElem?_append_left (by omega)]; exact h1, by rw [List.reverse_cons, List.getElem?_append_left (by omega)]; exact h2, h3.1, h3.2.1, h3.2.2.1, h3.2.2.2.1, fun z k1 hz => h3.2.2.2.2 z k1 ?_⟩
      rw [List.reverse_cons, List.getElem?_append_left (by omega)] at hz
      exact hz
    · rw [List.length_cons] at e
      have e' : k = r.length := by omega
      subst e'
      refine ⟨a, b, rev_at0 [] r a b, rev_at1 [] r a b, h.2.1, h.1, Cv.mem h.2.2.2.2 a List.mem_cons_self, h.2.2.1, fun z k1 hz => h.2.2.2.1 z ?_⟩
      cases r with
      | nil => simp at k1
      | cons w r =>
        have := rev_at0 [b] r w a
        rw [show (b :: a :: w :: r).reverse = ([b] ++ a :: w :: r).reverse from rfl] at hz
        rw [List.length_cons, show r.length + 1 - 1 = r.length by omega, this] at hz
        exact hz
end PM
set_option Elab.async false
set_option linter.all false
set_option maxRecDepth 100000
set_option autoImplicit false
set_option exponentiation.threshold 20000
namespace PM
open PySem PySem.Spec L2 PL
open PyProof.Rows hiding St
noncomputable def vn (p : Int) (n : Nat) : Nat := (vp p n).toNat
theorem vn_spec {p : Int} (hp : 2 ≤ p) {n : Nat} (hn : 1 ≤ n) : ∃ m : Int, (n : Int) = m * p ^ vn p n ∧ m % p ≠ 0 ∧ 1 ≤ m ∧ vp p n = vn p n := by
  obtain ⟨m, v, h1, h2, h3⟩ := vp_spec hp (show (n : Int) ≠ 0 by omega)
  have e : vn p n = v := by unfold vn; rw [h3]; rfl
  have P : 0 < p ^ v := Int.pow_pos (by omega)
  refine ⟨m, by rw [e]; exact h1, h2, ?_, by rw [e]; exact h3⟩
  rcases Int.lt_or_le m 1 with g | g
  · have := Int.mul_le_mul_of_nonneg_right (show m ≤ 0 by omega) (show 0 ≤ p ^ v by omega)
    rw [Int.zero_mul] at this
    omega
  · exact g
theorem vn_uniq {p m : Int} {n v : Nat} (hp : 2 ≤ p) (hn : 1 ≤ n) (h : (n : Int) = m * p ^ v) (hm : m % p ≠ 0) : vn p n = v := by
  obtain ⟨m', h1, h2, _, _⟩ := vn_spec hp hn
  exact (vp_uniq hp (h.symm.trans h1) hm h2).symm
theorem vn_zero {p : Int} {n : Nat} (hp : 2 ≤ p) (hn : 1 ≤ n) (h : (n : Int) % p ≠ 0) : vn p n = 0 := vn_uniq (m := n) hp hn (by simp) h
/-- the figures' sum by a prime: what the factorials lack -/
def dsum (p : Nat) : Nat → Nat → Nat
  | 0, _ => 0
  | f + 1, n => n % p + dsum p f (n / p)
noncomputable def wf (p : Int) : Nat → Nat
  | 0 => 0
  | n + 1 => wf p n + vn p (n + 1)
theorem dsum_0 (p : Nat) : ∀ f : Nat, dsum p f 0 = 0
  | 0 => rfl
  | f + 1 => by rw [dsum, Nat.zero_mod, Nat.zero_div, Nat.zero_add, dsum_0 p f]
theorem dsum_fuel {p : Nat} (hp : 2 ≤ p) : ∀ (f g n : Nat), n ≤ f → n ≤ g → dsum p f n = dsum p g n
  | 0, g, n, h, _ => by
    have e : n = 0 := by omega
    subst e
    rw [dsum_0, dsum_0]
  | f + 1, 0, n, _, h => by
    have e : n = 0 := by omega
    subst e
    rw [dsum_0, dsum_0]
  | f + 1, g + 1, n, h1, h2 => by
    rw [dsum, dsum]
    have : n / p ≤ n / 2 := Nat.div_le_div_left hp (by omega)
    rw [dsum_fuel hp f g (n / p) (by omega) (by omega)]
theorem vn_dsum {p : Nat} (hp : 2 ≤ p) : ∀ (f n : Nat), n + 1 ≤ f → (p - 1) * vn p (n + 1) + dsum p f (n + 1) = 1 + dsum p f n
  | 0, _, h => by omega
  | f + 1, n, h => by
    by_cases c : (n + 1) % p = 0
    · obtain ⟨j, hj⟩ : ∃ j, n + 1 = p * j := ⟨(n + 1) / p, by have := Nat.div_add_mod (n + 1) p; omega⟩
      have j0 : j ≠ 0 := fun z => by rw [z] at hj; omega
      obtain ⟨i, rfl⟩ : ∃ i, j = i + 1 := ⟨j - 1, by omega⟩
      have hn : n = p * i + (p - 1) := by rw [Nat.mul_add] at hj; omega
      have d1 : (n + 1) / p = i + 1 := by rw [hj]; exact Nat.mul_div_cancel_left _ (by omega)
      have d2 : n / p = i := by rw [hn, Nat.mul_add_div (by omega), Nat.div_eq_of_lt (by omega)]; omega
      have m2 : n % p = p - 1 := by rw [hn, Nat.mul_add_mod, Nat.mod_eq_of_lt (by omega)]
      have il : i + 1 ≤ f := by
        have : 2 * (i + 1) ≤ p * (i + 1) := Nat.mul_le_mul_right _ hp
        omega
      have ih := vn_dsum hp f i il
      obtain ⟨m, h1, h2, _, _⟩ := vn_spec (p := (p : Int)) (by omega) (show 1 ≤ i + 1 by omega)
      have e : vn p (n + 1) = vn p (i + 1) + 1 := vn_uniq (m := m) (by omega) (by omega) (by rw [hj, Int.natCast_mul, h1, Int.pow_succ]; grind) h2
      rw [dsum, dsum, c, d1, d2, m2, e, Nat.mul_add]
      omega
    · have hv : vn p (n + 1) = 0 := vn_zero (by omega) (by omega) (by omega)
      have hp0 : 0 < p := by omega
      have dm := Nat.div_add_mod n p
      have lt := Nat.mod_lt n hp0
      have e1 : n % p + 1 < p := by
        rcases Nat.lt_or_ge (n % p + 1) p with g | g
        · exact g
        · exfalso
          have : n + 1 = p * (n / p + 1) := by rw [Nat.mul_add]; omega
          rw [this] at c
          exact c (Nat.mul_mod_right _ _)
      have e2 : n + 1 = p * (n / p) + (n % p + 1) := by omega
      have d1 : (n + 1) / p = n / p := by
        conv => lhs; rw [e2]
        rw [Nat.mul_add_div hp0, Nat.div_eq_of_lt e1]; omega
      have d2 : (n + 1) % p = n % p + 1 := by
        conv => lhs; rw [e2]
        rw [Nat.mul_add_mod, Nat.mod_eq_of_lt e1]
      rw [dsum, dsum, hv, d1, d2]
      omega
theorem wf_dsum {p : Nat} (hp : 2 ≤ p) (f : Nat) : ∀ n : Nat, n ≤ f → (p - 1) * wf p n + dsum p f n = n
  | 0, _ => by
    have := dsum_fuel hp f 0 0 (by omega) (by omega)
    rw [wf, Nat.mul_zero, this]; rfl
  | n + 1, h => by
    have ih := wf_dsum hp f n (by omega)
    have s := vn_dsum hp f n h
    rw [wf, Nat.mul_add]
    omega
theorem dsum_pos {p : Nat} (hp : 2 ≤ p) : ∀ (f n : Nat), n ≤ f → 1 ≤ n → 1 ≤ dsum p f n
  | 0, n, h, h2 => by omega
  | f + 1, n, h, h2 => by
    rw [dsum]
    by_cases c : n % p = 0
    · have : n / p ≤ n / 2 := Nat.div_le_div_left hp (by omega)
      have d := Nat.div_add_mod n p
      have : 1 ≤ n / p := by
        rcases Nat.eq_zero_or_pos (n / p) with g | g
        · rw [g] at d; omega
        · exact g
      have := dsum_pos hp f (n / p) (by omega) this
      omega
    · omega
theorem wf_lt {p : Int} (hp : 2 ≤ p) (n : Nat) (hn : 1 ≤ n) : (p - 1) * (wf p n : Int) ≤ n - 1 := by
  obtain ⟨q, rfl⟩ : ∃ q : Nat, p = q := ⟨p.toNat, by omega⟩
  have h1 := wf_dsum (p := q) (by omega) n n (Nat.le_refl _)
  have h2 := dsum_pos (p := q) (by omega) n n (Nat.le_refl _) hn
  have e : ((q - 1 : Nat) : Int) = (q : Int) - 1 := by omega
  have h3 : ((q - 1 : Nat) : Int) * (wf q n : Int) = (((q - 1) * wf q n : Nat) : Int) := by rw [Int.natCast_mul]
  rw [← e, h3]
  omega
theorem wf_le {p : Int} (hp : 2 ≤ p) (n : Nat) (hn : 1 ≤ n) : wf p n + 1 ≤ n := by
  have h := wf_lt hp n hn
  have : 1 * (wf p n : Int) ≤ (p - 1) * (wf p n : Int) := Int.mul_le_mul_of_nonneg_right (by omega) (by omega)
  omega
theorem vn_le_wf (p : Int) (n : Nat) (hn : 1 ≤ n) : vn p n ≤ wf p n := by
  obtain ⟨m, rfl⟩ : ∃ m, n = m + 1 := ⟨n - 1, by omega⟩
  rw [wf]; omega
theorem vn_le {p : Int} (hp : 2 ≤ p) (n : Nat) (hn : 1 ≤ n) : vn p n + 1 ≤ n := by
  have := wf_le hp n hn
  have := vn_le_wf p n hn
  omega
theorem vn_sm {p : Int} (hp : 2 ≤ p) {n k : Nat} (hn : 1 ≤ n) (h : n < 2 ^ k) : vn p n < k := by
  obtain ⟨m, h1, _, h3, _⟩ := vn_spec hp hn
  have hw : (2 : Int) ^ vn p n ≤ p ^ vn p n := by
    have q : ((p.toNat : Nat) : Int) = p := by omega
    have := Nat.pow_le_pow_left (show 2 ≤ p.toNat by omega) (vn p n)
    have e1 : ((2 ^ vn p n : Nat) : Int) = (2 : Int) ^ vn p n := by rw [Int.natCast_pow]; rfl
    have e2 : ((p.toNat ^ vn p n : Nat) : Int) = p ^ vn p n := by rw [Int.natCast_pow, q]
    omega
  have h4 : 1 * p ^ vn p n ≤ m * p ^ vn p n := Int.mul_le_mul_of_nonneg_right h3 (Int.le_of_lt (Int.pow_pos (by omega)))
  have h5 : (2 : Int) ^ vn p n < 2 ^ k := by
    have : ((n : Nat) : Int) < ((2 ^ k : Nat) : Int) := by omega
    rw [Int.natCast_pow] at this
    have e : ((2 : Nat) : Int) = 2 := rfl
    rw [e] at this
    omega
  have h6 : (2 : Nat) ^ vn p n < 2 ^ k := by
    have e1 : ((2 ^ vn p n : Nat) : Int) = (2 : Int) ^ vn p n := by rw [Int.natCast_pow]; rfl
    have e2 : ((2 ^ k : Nat) : Int) = (2 : Int) ^ k := by rw [Int.natCast_pow]; rfl
    omega
  exact (Nat.pow_lt_pow_iff_right (by omega : 1 < 2)).mp h6
end PM
set_option Elab.async false
set_option linter.all false
set_option maxRecDepth 100000
set_option autoImplicit false
set_option exponentiation.threshold 20000
namespace PM
open PySem PySem.Spec L2 PL
open PyProof.Rows hiding St
theorem mo_iff {m x y : Int} : Mo m x y ↔ m ∣ x - y := by
  constructor
  · rintro ⟨z, h⟩; exact ⟨z, by omega⟩
  · rintro ⟨z, h⟩; exact ⟨z, by omega⟩
theorem Mo.canc {p m a b : Int} (hp : p ∈ primesL) (hm : m % p ≠ 0) {E v : Nat} (h : Mo (p ^ (E + v)) (m * p ^ v * a) (m * p ^ v * b)) : Mo (p ^ E) a b := by
  have hpb := primesL_le p hp
  have P : p ^ v ≠ 0 := Int.pow_ne_zero (by omega)
  rw [mo_iff] at h ⊢
  obtain ⟨z, hz⟩ := h
  have e : m * (a - b) = p ^ E * z := by
    rw [Int.pow_add] at hz
    refine Int.eq_of_mul_eq_mul_left P ?_
    grind
  have g : Int.gcd (p ^ E) m = 1 := by rw [Int.gcd_comm]; exact prime_gcd hp hm E
  have d : (p ^ E).natAbs ∣ m.natAbs * (a - b).natAbs := by rw [← Int.natAbs_mul]; exact Int.natAbs_dvd_natAbs.mpr ⟨z, e⟩
  exact Int.natAbs_dvd_natAbs.mp (Nat.Coprime.dvd_of_dvd_mul_left g d)
theorem Mo.cancP {p a b : Int} (hp : 2 ≤ p) {E v : Nat} (h : Mo (p ^ (E + v)) (p ^ v * a) (p ^ v * b)) : Mo (p ^ E) a b := by
  have P : p ^ v ≠ 0 := Int.pow_ne_zero (by omega)
  obtain ⟨z, hz⟩ := h
  refine ⟨z, Int.eq_of_mul_eq_mul_left P ?_⟩
  rw [hz, Int.pow_add]
  grind
theorem pow_mo0 {p x : Int} {s : Nat} (h : Mo (p ^ s) x 0) (k : Nat) : Mo (p ^ (s * k)) (x ^ k) 0 := by
  obtain ⟨z, hz⟩ := h
  refine ⟨z ^ k, ?_⟩
  rw [hz, Int.zero_add, Int.mul_pow, Int.pow_mul, Int.zero_add]
def fac : Nat → Int
  | 0 => 1
  | n + 1 => fac n * ((n + 1 : Nat) : Int)
noncomputable def mfc (p : Int) : Nat → Int
  | 0 => 1
  | n + 1 => mfc p n * (((n + 1 : Nat) : Int) / p ^ vn p (n + 1))
theorem vn_div {p : Int} (hp : 2 ≤ p) {n : Nat} (hn : 1 ≤ n) : (n : Int) = (n : Int) / p ^ vn p n * p ^ vn p n ∧ ((n : Int) / p ^ vn p n) % p ≠ 0 ∧ 1 ≤ (n : Int) / p ^ vn p n ∧ (n : Int) / p ^ vn p n ≤ n := by
  obtain ⟨m, h1, h2, h3, _⟩ := vn_spec hp hn
  have P : 0 < p ^ vn p n := Int.pow_pos (by omega)
  have e : (n : Int) / p ^ vn p n = m := by
    conv => lhs; rw [h1]
    exact Int.mul_ediv_cancel _ (by omega)
  rw [e]
  refine ⟨h1, h2, h3, ?_⟩
  have := Int.mul_le_mul_of_nonneg_left (show 1 ≤ p ^ vn p n by omega) (show 0 ≤ m by omega)
  omega
theorem mfc_spec {p : Int} (hp : p ∈ primesL) : ∀ n : Nat, fac n = mfc p n * p ^ wf p n ∧ mfc p n % p ≠ 0
  | 0 => by
    have hpb := primesL_le p hp
    refine ⟨by simp [fac, mfc, wf], ?_⟩
    rw [mfc, Int.emod_eq_of_lt (by omega) (by omega)]; decide
  | n + 1 => by
    have hpb := primesL_le p hp
    obtain ⟨h1, h2⟩ := mfc_spec hp n
    obtain ⟨g1, g2, _⟩ := vn_div hpb.1 (show 1 ≤ n + 1 by omega)
    refine ⟨?_, prime_mulI hp h2 g2⟩
    rw [fac, h1, mfc, wf, Int.pow_add]
    conv => lhs; rw [g1]
    grind
def sgs (q : Nat → Int) : Nat → Int
  | 0 => 0
  | n + 1 => sgs q n + (if (n + 1) % 2 = 1 then q (n + 1) else -(q (n + 1)))
def sms (q : Nat → Int) : Nat → Int
  | 0 => q 0
  | n + 1 => sms q n + q (n + 1)
def LgQ (p : Int) (E : Nat) (x : Int) (q : Nat → Int) (N : Nat) : Prop := ∀ k : Nat, 1 ≤ k → k ≤ N → Mo (p ^ (E + vn p k)) (k * q k) (x ^ k)
def ExQ (p : Int) (E : Nat) (x : Int) (q : Nat → Int) (N : Nat) : Prop := ∀ k : Nat, k ≤ N → Mo (p ^ (E + wf p k)) (fac k * q k) (x ^ k)
noncomputable def trn (a w : Int) : Int := match F_turned [.int a, .int w] with | .ok (.int z) => z | _ => 0
noncomputable def ep (p : Int) (n : Nat) (u : Int) : Nat → Int
  | 0 => 1
  | k + 1 => ep p n u k * u * trn (((k + 1 : Nat) : Int) / p ^ vn p (k + 1)) (p ^ n) % p ^ n
noncomputable def er (p : Int) (s k : Nat) : Nat := k * s - wf p k
noncomputable def ee (p : Int) (n : Nat) (u : Int) (s : Nat) (k : Nat) : Int := if k = 0 then 1 else if er p s k < n then ep p n u k * p ^ er p s k else 0
end PM
set_option Elab.async false
set_option linter.all false
set_option maxRecDepth 100000
set_option autoImplicit false
set_option exponentiation.threshold 20000
namespace PM
theorem Mo.zero {m x : Int} (z : Int) (h : x = m * z) : Mo m x 0 := ⟨z, by rw [h, Int.zero_add]⟩
theorem Mo.scaleP {p X Y c : Int} {a b : Nat} (h : Mo (p ^ a) X Y) (hc : Mo (p ^ b) c 0) : Mo (p ^ (a + b)) (X * c) (Y * c) := by
  obtain ⟨z, hz⟩ := h
  obtain ⟨w, hw⟩ := hc
  exact ⟨z * w, by rw [hz, hw, Int.pow_add]; grind⟩
theorem Mo.zeroP {p X c : Int} {a b : Nat} (h : Mo (p ^ a) X 0) (hc : Mo (p ^ b) c 0) : Mo (p ^ (a + b)) (X * c) 0 := by
  have := Mo.scaleP h hc
  rwa [Int.zero_mul] at this
theorem Mo.zero_mul {m X : Int} (c : Int) (h : Mo m X 0) : Mo m (X * c) 0 := by
  obtain ⟨z, hz⟩ := h
  exact ⟨z * c, by rw [hz]; grind⟩
theorem sgs_tail {W : Int} {q : Nat → Int} {M : Nat} : ∀ N : Nat, M ≤ N → (∀ k, M < k → k ≤ N → Mo W (q k) 0) → Mo W (sgs q N) (sgs q M)
  | 0, h, _ => by
    have e : M = 0 := by omega
    subst e; exact .refl _ _
  | N + 1, h, t => by
    by_cases e : M = N + 1
    · subst e; exact .refl _ _
    · have ih := sgs_tail N (by omega) fun k h1 h2 => t k h1 (by omega)
      have l := t (N + 1) (by omega) (by omega)
      rw [sgs]
      have z : Mo W (if (N + 1) % 2 = 1 then q (N + 1) else -q (N + 1)) 0 := by
        split
        · exact l
        · have s := (Mo.refl W 0).sub l
          rw [Int.zero_sub, Int.sub_zero] at s
          exact s
      exact (ih.add z).trans (.of_eq (Int.add_zero _))
theorem sms_tail {W : Int} {q : Nat → Int} {M : Nat} : ∀ N : Nat, M ≤ N → (∀ k, M < k → k ≤ N → Mo W (q k) 0) → Mo W (sms q N) (sms q M)
  | 0, h, _ => by
    have e : M = 0 := by omega
    subst e; exact .refl _ _
  | N + 1, h, t => by
    by_cases e : M = N + 1
    · subst e; exact .refl _ _
    · have ih := sms_tail N (by omega) fun k h1 h2 => t k h1 (by omega)
      rw [sms]
      exact (ih.add (t (N + 1) (by omega) (by omega))).trans (.of_eq (Int.add_zero _))
section
variable {p x : Int} {E : Nat}
theorem lg_tail (hp : p ∈ primesL) {q : Nat → Int} {N s k : Nat} (h : LgQ p E x q N) (hx : Mo (p ^ s) x 0) (h1 : 1 ≤ k) (hN : k ≤ N) (hs : E + vn p k ≤ s * k) : Mo (p ^ E) (q k) 0 := by
  have hpb := primesL_le p hp
  obtain ⟨m, v1, v2, _, _⟩ := vn_spec hpb.1 h1
  have a := (h k h1 hN).trans ((pow_mo0 hx k).low hs)
  refine Mo.canc hp v2 (v := vn p k) ?_
  rw [← v1, Int.mul_zero]; exact a
theorem ex_tail (hp : p ∈ primesL) {e : Nat → Int} {N s k : Nat} (h : ExQ p E x e N) (hx : Mo (p ^ s) x 0) (hN : k ≤ N) (hs : E + wf p k ≤ s * k) : Mo (p ^ E) (e k) 0 := by
  obtain ⟨f1, f2⟩ := mfc_spec hp k
  have a := (h k hN).trans ((pow_mo0 hx k).low hs)
  refine Mo.canc hp f2 (v := wf p k) ?_
  rw [← f1, Int.mul_zero]; exact a
end
theorem LgQ.low {p x : Int} {E F N : Nat} {q : Nat → Int} (h : LgQ p E x q N) (hF : F ≤ E) : LgQ p F x q N := fun k h1 h2 => (h k h1 h2).low (by omega)
theorem ExQ.low {p x : Int} {E F N : Nat} {q : Nat → Int} (h : ExQ p E x q N) (hF : F ≤ E) : ExQ p F x q N := fun k h2 => (h k h2).low (by omega)
theorem LgQ.near {p x : Int} (hp : p ∈ primesL) {E N s : Nat} {q : Nat → Int} (h : LgQ p E x q N) (hs : 1 ≤ s ∧ s ≤ E) (hx : Mo (p ^ s) x 0) : Mo (p ^ s) (sgs q N) 0 := by
  have hpb := primesL_le p hp
  refine sgs_tail N (Nat.zero_le _) fun k k1 k2 => lg_tail hp (h.low hs.2) hx k1 k2 ?_
  have := vn_le hpb.1 k k1
  obtain ⟨j, rfl⟩ : ∃ j, k = j + 1 := ⟨k - 1, by omega⟩
  have : 1 * j ≤ s * j := Nat.mul_le_mul_right j hs.1
  rw [Nat.mul_add]
  omega
theorem ExQ.near {p x : Int} (hp : p ∈ primesL) {E N s : Nat} {q : Nat → Int} (h : ExQ p E x q N) (h0 : q 0 = 1) (hs : 1 ≤ s ∧ s ≤ E) (hx : Mo (p ^ s) x 0) : Mo (p ^ s) (sms q N) 1 := by
  have hpb := primesL_le p hp
  have e : sms q 0 = 1 := h0
  rw [← e]
  refine sms_tail N (Nat.zero_le _) fun k k1 k2 => ex_tail hp (h.low hs.2) hx k2 ?_
  have := wf_le hpb.1 k k1
  obtain ⟨j, rfl⟩ : ∃ j, k = j + 1 := ⟨k - 1, by omega⟩
  have : 1 * j ≤ s * j := Nat.mul_le_mul_right j hs.1
  rw [Nat.mul_add]
  omega
end PM
set_option Elab.async false
set_option linter.all false
set_option maxRecDepth 100000
set_option autoImplicit false
set_option exponentiation.threshold 20000
namespace PM
def cb : Nat → Nat → Int
  | _, 0 => 1
  | 0, _ + 1 => 0
  | n + 1, k + 1 => cb n k + cb n (k + 1)
theorem cb_zero (n : Nat) : cb n 0 = 1 := by cases n <;> rfl
theorem cb_step (n k : Nat) : cb (n + 1) (k + 1) = cb n k + cb n (k + 1) := rfl
theorem cb_abs : ∀ n k : Nat, ((k + 1 : Nat) : Int) * cb (n + 1) (k + 1) = ((n + 1 : Nat) : Int) * cb n k
  | 0, 0 => by rw [cb_step, cb_zero]; rfl
  | 0, k + 1 => by rw [cb_step]; show ((k + 1 + 1 : Nat) : Int) * (0 + 0) = ((0 + 1 : Nat) : Int) * 0; omega
  | n + 1, 0 => by
    have h := cb_abs n 0
    rw [cb_step (n + 1) 0, cb_zero]
    rw [cb_zero] at h
    have e : ((0 + 1 : Nat) : Int) = 1 := rfl
    rw [e] at h ⊢
    have e2 : ((n + 1 + 1 : Nat) : Int) = ((n + 1 : Nat) : Int) + 1 := by omega
    rw [e2]
    grind
  | n + 1, k + 1 => by
    have h1 := cb_abs n (k + 1)
    have h0 := cb_abs n k
    have s := cb_step (n + 1) (k + 1)
    have t := cb_step n k
    have e1 : ((k + 1 + 1 : Nat) : Int) = ((k + 1 : Nat) : Int) + 1 := by omega
    have e2 : ((n + 1 + 1 : Nat) : Int) = ((n + 1 : Nat) : Int) + 1 := by omega
    rw [e1] at h1
    rw [s, e1, e2]
    obtain ⟨a, ha⟩ : ∃ a, a = ((k + 1 : Nat) : Int) := ⟨_, rfl⟩
    obtain ⟨b, hb⟩ : ∃ b, b = ((n + 1 : Nat) : Int) := ⟨_, rfl⟩
    rw [← ha, ← hb] at h1 h0 ⊢
    grind
theorem sms_shift (x : Int) (P : Nat) : ∀ M : Nat, sms (fun k => cb (P + 1) k * x ^ k) (M + 1) = sms (fun k => cb P k * x ^ k) (M + 1) + x * sms (fun k => cb P k * x ^ k) M
  | 0 => by
    show cb (P + 1) 0 * x ^ 0 + cb (P + 1) 1 * x ^ 1 = cb P 0 * x ^ 0 + cb P 1 * x ^ 1 + x * (cb P 0 * x ^ 0)
    rw [cb_zero, cb_zero, cb_step, cb_zero, Int.pow_succ, Int.pow_zero]
    grind
  | M + 1 => by
    have ih := sms_shift x P M
    have e1 : sms (fun k => cb (P + 1) k * x ^ k) (M + 1 + 1) = sms (fun k => cb (P + 1) k * x ^ k) (M + 1) + cb (P + 1) (M + 1 + 1) * x ^ (M + 1 + 1) := rfl
    have e2 : sms (fun k => cb P k * x ^ k) (M + 1 + 1) = sms (fun k => cb P k * x ^ k) (M + 1) + cb P (M + 1 + 1) * x ^ (M + 1 + 1) := rfl
    have e3 : sms (fun k => cb P k * x ^ k) (M + 1) = sms (fun k => cb P k * x ^ k) M + cb P (M + 1) * x ^ (M + 1) := rfl
    rw [e1, e2, ih, cb_step, e3, Int.pow_succ x (M + 1)]
    grind
theorem cb_big : ∀ n k : Nat, n < k → cb n k = 0
  | _, 0, h => by omega
  | 0, k + 1, _ => rfl
  | n + 1, k + 1, h => by rw [cb_step, cb_big n k (by omega), cb_big n (k + 1) (by omega)]; rfl
theorem binom (x : Int) : ∀ P M : Nat, P ≤ M → sms (fun k => cb P k * x ^ k) M = (1 + x) ^ P
  | 0, M, _ => by
    induction M with
    | zero => show cb 0 0 * x ^ 0 = _; rw [cb_zero, Int.pow_zero, Int.pow_zero]; rfl
    | succ M ih =>
      have e : sms (fun k => cb 0 k * x ^ k) (M + 1) = sms (fun k => cb 0 k * x ^ k) M + cb 0 (M + 1) * x ^ (M + 1) := rfl
      rw [e, ih (Nat.zero_le _), cb_big 0 (M + 1) (by omega), Int.zero_mul, Int.add_zero]
  | P + 1, M, h => by
    obtain ⟨m, rfl⟩ : ∃ m, M = m + 1 := ⟨M - 1, by omega⟩
    rw [sms_shift, binom x P (m + 1) (by omega), binom x P m (by omega), Int.pow_succ]
    grind
theorem two_le_pow : ∀ v : Nat, 2 * v ≤ 2 ^ v
  | 0 => by decide
  | 1 => by decide
  | v + 2 => by
    have := two_le_pow (v + 1)
    rw [Nat.pow_succ]
    omega
theorem vn_half {p : Int} (hp : 2 ≤ p) {n : Nat} (hn : 1 ≤ n) : 2 * vn p n ≤ n := by
  obtain ⟨m, h1, _, h3, _⟩ := vn_spec hp hn
  have h := two_le_pow (vn p n)
  rcases Nat.lt_or_ge n (2 ^ vn p n) with g | g
  · exact absurd (vn_sm hp hn g) (by omega)
  · omega
theorem vn_far {p : Int} (hp : 2 ≤ p) {E n : Nat} (hE : E ≤ 1000) (hn : E + 13 ≤ n) : E + vn p n ≤ n := by
  have h := vn_half hp (show 1 ≤ n by omega)
  rcases Nat.lt_or_ge n 8192 with g | g
  · have := vn_sm hp (k := 13) (show 1 ≤ n by omega) (by omega)
    omega
  · omega
def sgn (j : Nat) : Int := if j % 2 = 0 then 1 else -1
theorem cb_sgn {p : Int} (hp : p ∈ primesL) {K L : Nat} (hK : 1 ≤ K) (hL : L ≤ K) : ∀ j : Nat, (∀ i, 1 ≤ i → i ≤ j → vn p i ≤ L) → Mo (p ^ (K - L)) (cb (p.toNat ^ K - 1) j) (sgn j)
  | 0, _ => .of_eq (by rw [cb_zero]; rfl)
  | j + 1, h => by
    have hpb := primesL_le p hp
    have ih := cb_sgn hp hK hL j fun i h1 h2 => h i h1 (by omega)
    have P0 : 0 < p.toNat ^ K := Nat.pow_pos (by omega)
    obtain ⟨Q, hQ⟩ : ∃ Q, p.toNat ^ K = Q + 1 := ⟨p.toNat ^ K - 1, by omega⟩
    have PQ : ((Q + 1 : Nat) : Int) = p ^ K := by rw [← hQ, Int.natCast_pow, show ((p.toNat : Nat) : Int) = p by omega]
    rw [hQ, Nat.add_sub_cancel] at ih ⊢
    have ab := cb_abs Q j
    rw [cb_step, PQ] at ab
    obtain ⟨m, v1, v2, _, _⟩ := vn_spec hpb.1 (show 1 ≤ j + 1 by omega)
    have vl := h (j + 1) (by omega) (Nat.le_refl _)
    have z : Mo (p ^ (K - vn p (j + 1))) (cb Q j + cb Q (j + 1)) 0 := by
      refine Mo.canc hp v2 (v := vn p (j + 1)) ?_
      rw [show K - vn p (j + 1) + vn p (j + 1) = K by omega, Int.mul_zero, ← v1]
      exact Mo.zero (cb Q j) ab
    have z' := (z.low (show K - L ≤ K - vn p (j + 1) by omega)).sub ih
    have e : sgn (j + 1) = 0 - sgn j := by
      unfold sgn
      by_cases o : j % 2 = 0
      · rw [if_pos o, if_neg (by omega)]; rfl
      · rw [if_neg o, if_pos (by omega)]; rfl
    rw [e]
    exact (Mo.of_eq (by grind)).trans z'
theorem sms_sgs {W c : Int} {f q : Nat → Int} : ∀ M : Nat, (∀ k, 1 ≤ k → k ≤ M → Mo W (f k) (c * sgn (k - 1) * q k)) → Mo W (sms f M) (f 0 + c * sgs q M)
  | 0, _ => .of_eq (by simp [sms, sgs])
  | M + 1, h => by
    have ih := sms_sgs M fun k h1 h2 => h k h1 (by omega)
    have l := h (M + 1) (by omega) (Nat.le_refl _)
    rw [sms, sgs]
    have s := ih.add l
    refine s.trans (.of_eq ?_)
    rw [Nat.add_sub_cancel]
    unfold sgn
    by_cases o : M % 2 = 0
    · rw [if_pos o, if_pos (by omega)]; grind
    · rw [if_neg o, if_neg (by omega)]; grind
theorem ek {p x : Int} (hp : p ∈ primesL) {E K : Nat} {q : Nat → Int} (hE : E ≤ 400) (hK : E + 10 ≤ K) (hx : Mo (p ^ 1) x 0) (h : LgQ p E x q (E + 12)) :
    Mo (p ^ (E + K)) (p ^ K * sgs q (E + 12)) ((1 + x) ^ (p.toNat ^ K) - 1) := by
  have hpb := primesL_le p hp
  obtain ⟨N, hN⟩ : ∃ N, N = E + 12 := ⟨_, rfl⟩
  rw [← hN] at h ⊢
  obtain ⟨P, hP⟩ : ∃ P, P = p.toNat ^ K := ⟨_, rfl⟩
  have P0 : 0 < p.toNat ^ K := Nat.pow_pos (by omega)
  have PI : ((P : Nat) : Int) = p ^ K := by rw [hP, Int.natCast_pow, show ((p.toNat : Nat) : Int) = p by omega]
  obtain ⟨Q, hQ⟩ : ∃ Q, P = Q + 1 := ⟨P - 1, by omega⟩
  obtain ⟨f, hf⟩ : ∃ f : Nat → Int, f = fun k => cb P k * x ^ k := ⟨_, rfl⟩
  have b := binom x P (N + P) (by omega)
  rw [← hf] at b
  rw [← hP, ← b]
  -- one term
  have term : ∀ k, 1 ≤ k → ((k : Nat) : Int) * f k = p ^ K * cb Q (k - 1) * x ^ k := fun k k1 => by
    obtain ⟨j, rfl⟩ : ∃ j, k = j + 1 := ⟨k - 1, by omega⟩
    have ab := cb_abs Q j
    rw [← hQ, PI] at ab
    rw [hf]
    show ((j + 1 : Nat) : Int) * (cb P (j + 1) * x ^ (j + 1)) = _
    rw [← Int.mul_assoc, ab, Nat.add_sub_cancel]
  have tail : Mo (p ^ (E + K)) (sms f (N + P)) (sms f N) := sms_tail (N + P) (by omega) fun k k1 k2 => by
    obtain ⟨m, v1, v2, _, _⟩ := vn_spec hpb.1 (show 1 ≤ k by omega)
    have vf := vn_far hpb.1 (E := E) (n := k) (by omega) (by omega)
    refine Mo.canc hp v2 (v := vn p k) ?_
    rw [Int.mul_zero, ← v1, term k (by omega)]
    have xk := pow_mo0 hx k
    rw [Nat.one_mul] at xk
    have a := Mo.zeroP (xk.low vf) (Mo.zero (m := p ^ K) (cb Q (k - 1)) (rfl : p ^ K * cb Q (k - 1) = _))
    rw [show E + vn p k + K = E + K + vn p k by omega] at a
    exact (Mo.of_eq (Int.mul_comm _ _)).trans a
  have main : Mo (p ^ (E + K)) (sms f N) (f 0 + p ^ K * sgs q N) := sms_sgs N fun k k1 k2 => by
    obtain ⟨m, v1, v2, _, _⟩ := vn_spec hpb.1 k1
    have c1 : Mo (p ^ (E + K)) (f k) (p ^ K * cb Q (k - 1) * q k) := by
      refine Mo.canc hp v2 (v := vn p k) ?_
      rw [← v1, term k k1]
      have a := Mo.scaleP (h k k1 k2) (Mo.zero (m := p ^ K) (cb Q (k - 1)) (rfl : p ^ K * cb Q (k - 1) = _))
      rw [show E + vn p k + K = E + K + vn p k by omega] at a
      exact (Mo.of_eq (Int.mul_comm _ _)).trans (a.symm.trans (.of_eq (by grind)))
    have c2 := cb_sgn hp (K := K) (L := 10) (by omega) (by omega) (k - 1) fun i i1 i2 => by
      have := vn_sm hpb.1 (k := 10) i1 (by omega)
      omega
    rw [← hP, hQ, Nat.add_sub_cancel] at c2
    have c3 := Mo.scaleP (c2.low (show E ≤ K - 10 by omega)) (Mo.zero (m := p ^ K) (q k) (rfl : p ^ K * q k = _))
    exact c1.trans ((Mo.of_eq (by grind)).trans (c3.trans (.of_eq (by grind))))
  have f0 : f 0 = 1 := by rw [hf]; show cb P 0 * x ^ 0 = 1; rw [cb_zero, Int.pow_zero]; rfl
  rw [f0] at main
  have s := (tail.trans main).sub (Mo.refl _ 1)
  exact ((Mo.of_eq (by grind)).trans (s.symm))
def Lg (p : Int) (E : Nat) (x T : Int) : Prop := ∃ K0 : Nat, ∀ K : Nat, K0 ≤ K → Mo (p ^ (E + K)) (p ^ K * T) ((1 + x) ^ (p.toNat ^ K) - 1)
theorem Lg.low {p x T : Int} {E F : Nat} (h : Lg p E x T) (hF : F ≤ E) : Lg p F x T := by
  obtain ⟨K0, h⟩ := h
  exact ⟨K0, fun K hK => (h K hK).low (by omega)⟩
theorem Lg.uniq {p x T S : Int} (hp : 2 ≤ p) {E : Nat} (h : Lg p E x T) (g : Lg p E x S) : Mo (p ^ E) T S := by
  obtain ⟨K0, h⟩ := h
  obtain ⟨K1, g⟩ := g
  exact Mo.cancP hp (v := K0 + K1) ((h (K0 + K1) (by omega)).trans (g (K0 + K1) (by omega)).symm)
theorem Lg.mul {p x y T S : Int} {E : Nat} (h : Lg p E x T) (g : Lg p E y S) : Lg p E (x + y + x * y) (T + S) := by
  obtain ⟨K0, h⟩ := h
  obtain ⟨K1, g⟩ := g
  refine ⟨E + K0 + K1, fun K hK => ?_⟩
  have h := h K (by omega)
  have g := g K (by omega)
  obtain ⟨X, hX⟩ : ∃ X, X = (1 + x) ^ (p.toNat ^ K) - 1 := ⟨_, rfl⟩
  obtain ⟨Y, hY⟩ : ∃ Y, Y = (1 + y) ^ (p.toNat ^ K) - 1 := ⟨_, rfl⟩
  have e : (1 + (x + y + x * y)) ^ (p.toNat ^ K) - 1 = X + Y + X * Y := by
    have e1 : 1 + (x + y + x * y) = (1 + x) * (1 + y) := by grind
    rw [e1, Int.mul_pow, hX, hY]
    grind
  rw [← hX] at h
  rw [← hY] at g
  rw [e]
  have z : Mo (p ^ (E + K)) (X * Y) 0 := by
    have x0 : Mo (p ^ K) X 0 := (h.symm.low (by omega)).trans (Mo.zero T rfl)
    have y0 : Mo (p ^ K) Y 0 := (g.symm.low (by omega)).trans (Mo.zero S rfl)
    exact (Mo.zeroP x0 y0).low (by omega)
  have s := (h.add g).add z.symm
  exact (Mo.of_eq (by grind)).trans s
end PM
set_option Elab.async false
set_option linter.all false
set_option maxRecDepth 100000
set_option autoImplicit false
set_option exponentiation.threshold 20000
namespace PM
open PySem PySem.Spec L2 PL
open PyProof.Rows hiding St
theorem sms_front (f : Nat → Int) : ∀ M : Nat, sms f (M + 1) = f 0 + sms (fun i => f (i + 1)) M
  | 0 => rfl
  | M + 1 => by
    have ih := sms_front f M
    rw [show sms f (M + 1 + 1) = sms f (M + 1) + f (M + 1 + 1) from rfl, ih]
    show f 0 + sms (fun i => f (i + 1)) M + f (M + 1 + 1) = f 0 + (sms (fun i => f (i + 1)) M + f (M + 1 + 1))
    omega
theorem sms_add (f g : Nat → Int) : ∀ M : Nat, sms (fun i => f i + g i) M = sms f M + sms g M
  | 0 => rfl
  | M + 1 => by
    have ih := sms_add f g M
    show sms (fun i => f i + g i) M + (f (M + 1) + g (M + 1)) = sms f M + f (M + 1) + (sms g M + g (M + 1))
    omega
theorem sms_mul (c : Int) (f : Nat → Int) : ∀ M : Nat, sms (fun i => c * f i) M = c * sms f M
  | 0 => rfl
  | M + 1 => by
    have ih := sms_mul c f M
    show sms (fun i => c * f i) M + c * f (M + 1) = c * (sms f M + f (M + 1))
    rw [ih]; grind
theorem sms_ext {f g : Nat → Int} : ∀ M : Nat, (∀ i, i ≤ M → f i = g i) → sms f M = sms g M
  | 0, h => h 0 (Nat.le_refl _)
  | M + 1, h => by
    rw [sms, sms, sms_ext M fun i hi => h i (by omega), h (M + 1) (Nat.le_refl _)]
theorem sms_cong {W : Int} {f g : Nat → Int} : ∀ M : Nat, (∀ i, i ≤ M → Mo W (f i) (g i)) → Mo W (sms f M) (sms g M)
  | 0, h => h 0 (Nat.le_refl _)
  | M + 1, h => (sms_cong M fun i hi => h i (by omega)).add (h (M + 1) (Nat.le_refl _))
/-- a triangle of products, by rows and by columns -/
theorem tri (e f : Nat → Int) : ∀ N : Nat, sms (fun n => sms (fun i => e i * f (n - i)) n) N = sms (fun i => e i * sms f (N - i)) N
  | 0 => rfl
  | N + 1 => by
    have ih := tri e f N
    have e1 : sms (fun n => sms (fun i => e i * f (n - i)) n) (N + 1) = sms (fun n => sms (fun i => e i * f (n - i)) n) N + sms (fun i => e i * f (N + 1 - i)) (N + 1) := rfl
    have e2 : sms (fun i => e i * f (N + 1 - i)) (N + 1) = sms (fun i => e i * f (N + 1 - i)) N + e (N + 1) * f (N + 1 - (N + 1)) := rfl
    have e3 : sms (fun i => e i * sms f (N + 1 - i)) (N + 1) = sms (fun i => e i * sms f (N + 1 - i)) N + e (N + 1) * sms f (N + 1 - (N + 1)) := rfl
    have e4 : sms (fun i => e i * sms f (N + 1 - i)) N = sms (fun i => e i * sms f (N - i) + e i * f (N + 1 - i)) N := sms_ext N fun i hi => by
      rw [show N + 1 - i = (N - i) + 1 by omega, sms]; grind
    rw [e1, ih, e2, e3, e4, sms_add, Nat.sub_self]
    show _ = _ + e (N + 1) * f 0
    omega
theorem binom2 (y w : Int) : ∀ n M : Nat, n ≤ M → sms (fun i => cb n i * y ^ i * w ^ (M - i)) M = (y + w) ^ n * w ^ (M - n)
  | 0, M, _ => by
    cases M with
    | zero => show cb 0 0 * y ^ 0 * w ^ (0 - 0) = _; simp [cb_zero]
    | succ M =>
      rw [sms_front]
      have z : sms (fun i => cb 0 (i + 1) * y ^ (i + 1) * w ^ (M + 1 - (i + 1))) M = 0 := by
        have : sms (fun i => cb 0 (i + 1) * y ^ (i + 1) * w ^ (M + 1 - (i + 1))) M = sms (fun i => 0 * (0 : Int)) M := sms_ext M fun i _ => by rw [cb_big 0 (i + 1) (by omega)]; simp
        rw [this, sms_mul, Int.zero_mul]
      rw [z, cb_zero]; simp
  | n + 1, M, h => by
    obtain ⟨m, rfl⟩ : ∃ m, M = m + 1 := ⟨M - 1, by omega⟩
    have i1 := binom2 y w n (m + 1) (by omega)
    have i2 := binom2 y w n m (by omega)
    rw [sms_front] at i1 ⊢
    have e : sms (fun i => cb (n + 1) (i + 1) * y ^ (i + 1) * w ^ (m + 1 - (i + 1))) m = sms (fun i => cb n (i + 1) * y ^ (i + 1) * w ^ (m + 1 - (i + 1)) + y * (cb n i * y ^ i * w ^ (m - i))) m := sms_ext m fun i hi => by
      rw [cb_step, show m + 1 - (i + 1) = m - i by omega, Int.pow_succ]; grind
    rw [e, sms_add, sms_mul, i2]
    rw [cb_zero] at i1 ⊢
    rw [show m + 1 - n = (m - n) + 1 by omega, Int.pow_succ] at i1
    rw [show m + 1 - (n + 1) = m - n by omega, Int.pow_succ (y + w)]
    grind
theorem cb_fac : ∀ n k : Nat, k ≤ n → cb n k * fac k * fac (n - k) = fac n
  | n, 0, _ => by rw [cb_zero, fac, Nat.sub_zero]; omega
  | 0, k + 1, h => by omega
  | n + 1, k + 1, h => by
    have ih := cb_fac n k (by omega)
    have ab := cb_abs n k
    rw [show n + 1 - (k + 1) = n - k by omega, fac, fac, ← ih]
    grind
def Nr (p y : Int) : Prop := Mo (p ^ 1) y 0 ∧ (p = 2 → Mo (p ^ 2) y 0)
theorem Nr.add {p y w : Int} (h : Nr p y) (g : Nr p w) : Nr p (y + w) := by
  refine ⟨by have := h.1.add g.1; rwa [Int.add_zero] at this, fun e => by have := (h.2 e).add (g.2 e); rwa [Int.add_zero] at this⟩
theorem half {p y : Int} (hp : p ∈ primesL) (h : Nr p y) {E a i N : Nat} {e : Nat → Int} (he : ExQ p E y e N) (hi : i ≤ N) (ha : a ≤ E) (ha2 : a ≤ (i + 1) / 2) : Mo (p ^ a) (e i) 0 := by
  have hpb := primesL_le p hp
  by_cases i0 : i = 0
  · subst i0
    have : a = 0 := by omega
    subst this
    exact ⟨e 0, by simp⟩
  · have w := wf_le hpb.1 i (by omega)
    by_cases e2 : p = 2
    · exact ex_tail hp (he.low ha) (h.2 e2) hi (by omega)
    · refine ex_tail hp (he.low ha) h.1 hi ?_
      have w2 := wf_lt hpb.1 i (by omega)
      have : 2 * (wf p i : Int) ≤ (p - 1) * (wf p i : Int) := Int.mul_le_mul_of_nonneg_right (by omega) (by omega)
      omega
theorem wf_add {p : Int} (hp : p ∈ primesL) {n i : Nat} (hi : i ≤ n) : wf p i + wf p (n - i) ≤ wf p n := by
  have hpb := primesL_le p hp
  obtain ⟨a1, a2⟩ := mfc_spec hp i
  obtain ⟨b1, b2⟩ := mfc_spec hp (n - i)
  obtain ⟨c1, c2⟩ := mfc_spec hp n
  have cf := cb_fac n i hi
  rcases Nat.lt_or_ge (wf p n) (wf p i + wf p (n - i)) with g | g
  · exfalso
    obtain ⟨d, hd⟩ : ∃ d, wf p i + wf p (n - i) = wf p n + (d + 1) := ⟨wf p i + wf p (n - i) - wf p n - 1, by omega⟩
    have e : mfc p n * p ^ wf p n = cb n i * mfc p i * mfc p (n - i) * p ^ (d + 1) * p ^ wf p n := by
      rw [← c1, ← cf, a1, b1]
      have : p ^ wf p i * p ^ wf p (n - i) = p ^ wf p n * p ^ (d + 1) := by rw [← Int.pow_add, ← Int.pow_add, hd]
      grind
    have e2 := Int.eq_of_mul_eq_mul_right (Int.pow_ne_zero (show p ≠ 0 by omega)) e
    rw [e2, Int.pow_succ, ← Int.mul_assoc, Int.mul_emod_left] at c2
    exact c2 rfl
  · exact g
theorem cb_wf {p : Int} (hp : p ∈ primesL) {n i : Nat} (hi : i ≤ n) : Mo (p ^ (wf p n - (wf p i + wf p (n - i)))) (cb n i) 0 := by
  obtain ⟨a1, a2⟩ := mfc_spec hp i
  obtain ⟨b1, b2⟩ := mfc_spec hp (n - i)
  obtain ⟨c1, c2⟩ := mfc_spec hp n
  have cf := cb_fac n i hi
  have w := wf_add hp hi
  refine Mo.canc hp (prime_mulI hp a2 b2) (v := wf p i + wf p (n - i)) ?_
  rw [show wf p n - (wf p i + wf p (n - i)) + (wf p i + wf p (n - i)) = wf p n by omega, Int.mul_zero]
  refine Mo.zero (mfc p n) ?_
  have e : mfc p i * mfc p (n - i) * p ^ (wf p i + wf p (n - i)) * cb n i = cb n i * fac i * fac (n - i) := by rw [a1, b1, Int.pow_add]; grind
  rw [e, cf, c1, Int.mul_comm]
theorem nr_wf {p y : Int} (hp : p ∈ primesL) (h : Nr p y) (i : Nat) : Mo (p ^ wf p i) (y ^ i) 0 := by
  have hpb := primesL_le p hp
  have z := pow_mo0 h.1 i
  by_cases i0 : i = 0
  · subst i0; exact ⟨y ^ 0, by simp [wf]⟩
  · have w := wf_le hpb.1 i (by omega)
    exact z.low (by omega)
theorem conv {p y w : Int} (hp : p ∈ primesL) (hy : Nr p y) (hw : Nr p w) {E N : Nat} {e f : Nat → Int} (he : ExQ p E y e N) (hf : ExQ p E w f N) : ExQ p E (y + w) (fun n => sms (fun i => e i * f (n - i)) n) N := by
  intro n hn
  have b := binom2 y w n n (Nat.le_refl _)
  rw [Nat.sub_self, Int.pow_zero, Int.mul_one] at b
  rw [← b, ← sms_mul]
  refine sms_cong n fun i hi => ?_
  have cf := cb_fac n i hi
  have wa := wf_add hp hi
  have x1 := he i (by omega)
  have x2 := hf (n - i) (by omega)
  obtain ⟨b1, _⟩ := mfc_spec hp (n - i)
  have s1 := Mo.scaleP x1 (Mo.zero (m := p ^ wf p (n - i)) (mfc p (n - i) * f (n - i)) (show fac (n - i) * f (n - i) = _ by rw [b1]; grind))
  have s2 := Mo.scaleP x2 (nr_wf hp hy i)
  have s3 : Mo (p ^ (E + (wf p i + wf p (n - i)))) (fac i * e i * (fac (n - i) * f (n - i))) (y ^ i * w ^ (n - i)) := by
    rw [show E + wf p i + wf p (n - i) = E + (wf p i + wf p (n - i)) by omega] at s1
    rw [show E + wf p (n - i) + wf p i = E + (wf p i + wf p (n - i)) by omega] at s2
    exact s1.trans ((Mo.of_eq (Int.mul_comm _ _)).trans (s2.trans (.of_eq (Int.mul_comm _ _))))
  have s4 := Mo.scaleP s3 (cb_wf hp hi)
  rw [show E + (wf p i + wf p (n - i)) + (wf p n - (wf p i + wf p (n - i))) = E + wf p n by omega] at s4
  refine (Mo.of_eq ?_).trans (s4.trans (.of_eq (by grind)))
  rw [← cf]
  grind
def Ex (p : Int) (E : Nat) (y W : Int) : Prop := ∃ (e : Nat → Int), ExQ p E y e (2 * E + 1) ∧ Mo (p ^ E) W (sms e (2 * E + 1))
theorem exq_uniq {p y : Int} (hp : p ∈ primesL) {E N : Nat} {e f : Nat → Int} (he : ExQ p E y e N) (hf : ExQ p E y f N) : ∀ i, i ≤ N → Mo (p ^ E) (e i) (f i) := fun i hi => by
  obtain ⟨a1, a2⟩ := mfc_spec hp i
  refine Mo.canc hp a2 (v := wf p i) ?_
  rw [← a1]
  exact (he i hi).trans (hf i hi).symm
theorem Ex.uniq {p y W Z : Int} (hp : p ∈ primesL) {E : Nat} (h : Ex p E y W) (g : Ex p E y Z) : Mo (p ^ E) W Z := by
  obtain ⟨e, he, hW⟩ := h
  obtain ⟨f, hf, hZ⟩ := g
  exact hW.trans ((sms_cong _ fun i hi => exq_uniq hp he hf i hi).trans hZ.symm)
theorem Ex.low {p y W : Int} (hp : p ∈ primesL) (hy : Nr p y) {E F : Nat} (h : Ex p E y W) (hF : F ≤ E) : Ex p F y W := by
  obtain ⟨e, he, hW⟩ := h
  refine ⟨e, fun k hk => (he.low hF) k (by omega), (hW.low hF).trans ?_⟩
  exact sms_tail _ (by omega) fun k k1 k2 => half hp hy he k2 hF (by omega)
theorem Ex.add {p y w W Z : Int} (hp : p ∈ primesL) (hy : Nr p y) (hw : Nr p w) {E : Nat} (h : Ex p E y W) (g : Ex p E w Z) : Ex p E (y + w) (W * Z) := by
  obtain ⟨e, he, hW⟩ := h
  obtain ⟨f, hf, hZ⟩ := g
  obtain ⟨N, hN⟩ : ∃ N, N = 2 * E + 1 := ⟨_, rfl⟩
  rw [← hN] at he hW hf hZ
  refine ⟨_, by rw [← hN]; exact conv hp hy hw he hf, ?_⟩
  rw [← hN, tri]
  have s : Mo (p ^ E) (sms e N * sms f N) (sms (fun i => e i * sms f (N - i)) N) := by
    rw [Int.mul_comm, ← sms_mul]
    refine sms_cong N fun i hi => ?_
    rw [Int.mul_comm]
    obtain ⟨a, ha⟩ : ∃ a, a = min E ((i + 1) / 2) := ⟨_, rfl⟩
    have ea := half hp hy he hi (show a ≤ E by omega) (by omega)
    have ft : Mo (p ^ (E - a)) (sms f N) (sms f (N - i)) := sms_tail N (by omega) fun k k1 k2 => half hp hw hf k2 (by omega) (by omega)
    have t := Mo.scaleP ft ea
    rw [show E - a + a = E by omega] at t
    exact (Mo.of_eq (Int.mul_comm _ _)).trans (t.trans (.of_eq (Int.mul_comm _ _)))
  exact (hW.mul hZ).trans s
theorem Lg.inj {p x y T : Int} (hp : p ∈ primesL) (hx : Nr p x) (hy : Nr p y) {E : Nat} (h : Lg p E x T) (g : Lg p E y T) : Mo (p ^ E) x y := by
  have hpb := primesL_le p hp
  obtain ⟨K0, h⟩ := h
  obtain ⟨K1, g⟩ := g
  have e := (h (K0 + K1) (by omega)).symm.trans (g (K0 + K1) (by omega))
  obtain ⟨K, hK⟩ : ∃ K, K = K0 + K1 := ⟨_, rfl⟩
  rw [← hK] at e
  by_cases d0 : x - y = 0
  · exact .of_eq (by omega)
  obtain ⟨u, j, e1, e2, _⟩ := vp_spec hpb.1 d0
  rcases Nat.lt_or_ge j E with jE | jE
  · exfalso
    have near : ∀ s : Nat, Mo (p ^ s) (x - y) 0 → s ≤ j := fun s hs => by
      rcases Nat.lt_or_ge j s with g | g
      · exfalso
        obtain ⟨z, hz⟩ := hs
        rw [Int.zero_add, e1] at hz
        obtain ⟨d, hd⟩ : ∃ d, s = j + (d + 1) := ⟨s - j - 1, by omega⟩
        rw [hd, Int.pow_add] at hz
        have pj : p ^ j ≠ 0 := Int.pow_ne_zero (by omega)
        have : u = p ^ (d + 1) * z := Int.eq_of_mul_eq_mul_right pj (by rw [hz]; grind)
        rw [this, Int.pow_succ, Int.mul_assoc, Int.mul_comm p z, ← Int.mul_assoc, Int.mul_emod_left] at e2
        exact e2 rfl
      · exact g
    have j1 := near 1 (by have := hx.1.sub hy.1; rwa [Int.sub_self] at this)
    have j2 : p = 2 → 2 ≤ j := fun q => near 2 (by have := (hx.2 q).sub (hy.2 q); rwa [Int.sub_self] at this)
    have B1 : (1 + y) % p ≠ 0 := by
      obtain ⟨z, hz⟩ := hy.1
      rw [hz, Int.pow_succ, Int.pow_zero, Int.zero_add, Int.one_mul, Int.add_mul_emod_self_left, Int.emod_eq_of_lt (by omega) (by omega)]
      decide
    obtain ⟨y', q1, q2⟩ := lte_t hp B1 j u j1 j2 K
    have xe : 1 + x = 1 + y + p ^ j * u := by rw [Int.mul_comm]; omega
    rw [xe, q1] at e
    obtain ⟨z, hz⟩ := e
    have f : p ^ (j + K) * y' = p ^ (E + K) * z := by omega
    obtain ⟨d, hd⟩ : ∃ d, E + K = (j + K) + (d + 1) := ⟨E - j - 1, by omega⟩
    rw [hd, Int.pow_add p (j + K) (d + 1)] at f
    have pj : p ^ (j + K) ≠ 0 := Int.pow_ne_zero (by omega)
    have : y' = p ^ (d + 1) * z := Int.eq_of_mul_eq_mul_left pj (by rw [f]; grind)
    have q3 := q2 e2
    rw [this, Int.pow_succ, Int.mul_assoc, Int.mul_comm p z, ← Int.mul_assoc, Int.mul_emod_left] at q3
    exact q3 rfl
  · obtain ⟨d, rfl⟩ : ∃ d, j = E + d := ⟨j - E, by omega⟩
    refine ⟨u * p ^ d, ?_⟩
    rw [Int.pow_add] at e1
    have : u * (p ^ E * p ^ d) = p ^ E * (u * p ^ d) := by grind
    omega
end PM
set_option Elab.async false
set_option linter.all false
set_option maxRecDepth 100000
set_option autoImplicit false
set_option exponentiation.threshold 20000
namespace PM
open PySem PySem.Spec L2 PL
open PyProof.Rows hiding St
def slp : Nat → List Int → List Int
  | _, [] => []
  | n, a :: r => (n : Int) * a :: slp (n + 1) r
theorem slp_len : ∀ (l : List Int) (n : Nat), (slp n l).length = l.length
  | [], _ => rfl
  | a :: r, n => by rw [slp, List.length_cons, List.length_cons, slp_len r]
def at0 (l : List Int) (n : Nat) : Int := l.getD n 0
theorem at0_out {l : List Int} {n : Nat} (h : l.length ≤ n) : at0 l n = 0 := by unfold at0; rw [List.getD_eq_getElem?_getD, List.getElem?_eq_none h]; rfl
def prow (a b : List Int) (n : Nat) : Nat → Int
  | 0 => 0
  | k + 1 => prow a b n k + (if k ≤ n then at0 a k * at0 b (n - k) else 0)
/-- the list while row k is added, up to its m-th number -/
def Part (a b L : List Int) (k m : Nat) : Prop := L.length = a.length + b.length - 1 ∧ ∀ n, n < L.length → at0 L n = prow a b n k + (if k ≤ n ∧ n - k < m then at0 a k * at0 b (n - k) else 0)
theorem Part.next {a b L : List Int} {k m : Nat} (h : Part a b L k m) (hk : k < a.length) (hm : m < b.length) : Part a b (L.set (k + m) (at0 L (k + m) + at0 a k * at0 b m)) k (m + 1) := by
  obtain ⟨h1, h2⟩ := h
  have kl : k + m < L.length := by omega
  refine ⟨by rw [List.length_set, h1], fun n hn => ?_⟩
  rw [List.length_set] at hn
  by_cases e : n = k + m
  · subst e
    have : at0 (L.set (k + m) (at0 L (k + m) + at0 a k * at0 b m)) (k + m) = at0 L (k + m) + at0 a k * at0 b m := by
      unfold at0
      rw [List.getD_eq_getElem?_getD, List.getElem?_set_self kl, Option.getD_some]
    rw [this, h2 _ kl, if_neg (by omega), if_pos (by omega), Int.add_zero, Nat.add_sub_cancel_left]
  · have : at0 (L.set (k + m) (at0 L (k + m) + at0 a k * at0 b m)) n = at0 L n := by
      unfold at0
      rw [List.getD_eq_getElem?_getD, List.getElem?_set_ne (fun z => e z.symm), ← List.getD_eq_getElem?_getD]
    rw [this, h2 n hn]
    congr 1
    by_cases q : k ≤ n ∧ n - k < m
    · rw [if_pos q, if_pos (by omega)]
    · rw [if_neg q, if_neg (by omega)]
theorem Part.row {a b L : List Int} {k : Nat} (h : Part a b L k b.length) : Part a b L (k + 1) 0 := by
  refine ⟨h.1, fun n hn => ?_⟩
  rw [h.2 n hn, prow]
  have z : ¬ (k + 1 ≤ n ∧ n - (k + 1) < 0) := by omega
  rw [if_neg z, Int.add_zero]
  congr 1
  by_cases q : k ≤ n
  · rw [if_pos q]
    by_cases w : n - k < b.length
    · rw [if_pos ⟨q, w⟩]
    · rw [if_neg (fun r => w r.2), at0_out (show b.length ≤ n - k by omega), Int.mul_zero]
  · rw [if_neg q, if_neg (fun r => q r.1)]
end PM
set_option Elab.async false
set_option linter.all false
set_option maxRecDepth 100000
set_option autoImplicit false
set_option exponentiation.threshold 20000
namespace PM
def ev : List Int → Int → Int
  | [], _ => 0
  | c :: r, x => c + x * ev r x
def syn (d : Int) : List Int → List Int
  | [] => []
  | c :: r => (c + d * (syn d r).headD 0) :: syn d r
theorem syn_len (d : Int) : ∀ cs : List Int, (syn d cs).length = cs.length
  | [] => rfl
  | c :: r => by rw [syn, List.length_cons, List.length_cons, syn_len d r]
theorem ev_syn (d x : Int) : ∀ cs : List Int, ev cs x = (syn d cs).headD 0 + (x - d) * ev (syn d cs).tail x
  | [] => by simp [ev, syn]
  | c :: r => by
    have ih := ev_syn d x r
    rw [ev, syn, List.headD_cons, List.tail_cons, ih]
    have e : ev (syn d r) x = (syn d r).headD 0 + x * ev (syn d r).tail x := by
      cases syn d r with
      | nil => simp [ev]
      | cons a l => simp [ev]
    rw [e]
    grind
def shf (d : Int) : Nat → List Int → List Int
  | 0, cs => cs
  | n + 1, cs => match syn d cs with
    | [] => []
    | v :: q => v :: shf d n q
theorem shf_len (d : Int) : ∀ (n : Nat) (cs : List Int), (shf d n cs).length = cs.length
  | 0, _ => rfl
  | n + 1, cs => by
    have l := syn_len d cs
    rw [shf]
    cases h : syn d cs with
    | nil => rw [← l, h]
    | cons v q => rw [← l, h]; simp [shf_len d n q]
theorem ev_shf (d z : Int) : ∀ (n : Nat) (cs : List Int), cs.length ≤ n + 1 → ev (shf d n cs) z = ev cs (d + z)
  | 0, [], _ => rfl
  | 0, [c], _ => by simp [shf, ev]
  | 0, _ :: _ :: _, h => by simp at h
  | n + 1, cs, h => by
    have l := syn_len d cs
    have e := ev_syn d (d + z) cs
    rw [shf, e]
    cases hs : syn d cs with
    | nil => simp [ev]
    | cons v q =>
      rw [hs] at l
      have ih := ev_shf d z n q (by rw [List.length_cons] at l; omega)
      simp only [List.headD_cons, List.tail_cons, ev, ih]
      grind
/-- each number times a rising power -/
def scl (p : Int) : Int → List Int → List Int
  | _, [] => []
  | b, c :: r => c * b :: scl p (b * p) r
theorem scl_len (p : Int) : ∀ (b : Int) (cs : List Int), (scl p b cs).length = cs.length
  | _, [] => rfl
  | b, c :: r => by rw [scl, List.length_cons, List.length_cons, scl_len]
theorem ev_scl (p z : Int) : ∀ (b : Int) (cs : List Int), ev (scl p b cs) z = b * ev cs (p * z)
  | _, [] => by simp [scl, ev]
  | b, c :: r => by
    rw [scl, ev, ev, ev_scl p z (b * p) r]
    grind
theorem ev_mul (k z : Int) : ∀ cs : List Int, ev (cs.map fun c => k * c) z = k * ev cs z
  | [] => by simp [ev]
  | c :: r => by rw [List.map_cons, ev, ev, ev_mul k z r]; grind
/-- bounds -/
theorem syn_bd {d : Int} {m : Nat} (hd : d.natAbs < 128 - 1) : ∀ cs : List Int, (∀ c ∈ cs, c.natAbs < 2 ^ m) → ∀ c ∈ syn d cs, c.natAbs < 2 ^ (m + 7 * cs.length)
  | [], _ => by simp [syn]
  | c :: r, h => by
    have ih := syn_bd hd r fun x hx => h x (List.mem_cons_of_mem _ hx)
    intro x hx
    rw [syn] at hx
    rw [List.length_cons]
    have up : (2 : Nat) ^ (m + 7 * (r.length + 1)) = 2 ^ (m + 7 * r.length) * 128 := by rw [show m + 7 * (r.length + 1) = m + 7 * r.length + 7 by omega, Nat.pow_add]
    have lo : (2 : Nat) ^ m ≤ 2 ^ (m + 7 * r.length) := Nat.pow_le_pow_right (by omega) (by omega)
    rw [up]
    rcases List.mem_cons.mp hx with hx | hx
    · subst hx
      have hc := h c List.mem_cons_self
      have hh : ((syn d r).headD 0).natAbs < 2 ^ (m + 7 * r.length) := by
        cases hs : syn d r with
        | nil => simpa using Nat.pow_pos (by omega : 0 < 2)
        | cons a l => exact ih a (by rw [hs]; exact List.mem_cons_self)
      have t := Int.natAbs_add_le c (d * (syn d r).headD 0)
      rw [Int.natAbs_mul] at t
      have m1 : d.natAbs * ((syn d r).headD 0).natAbs ≤ 126 * 2 ^ (m + 7 * r.length) := Nat.mul_le_mul (by omega) (by omega)
      omega
    · exact Nat.lt_of_lt_of_le (ih x hx) (by omega)
theorem shf_bd {d : Int} (hd : d.natAbs < 128 - 1) : ∀ (n : Nat) (m : Nat) (cs : List Int) (L : Nat), cs.length ≤ L → (∀ c ∈ cs, c.natAbs < 2 ^ m) → ∀ c ∈ shf d n cs, c.natAbs < 2 ^ (m + 7 * L * n)
  | 0, m, cs, L, _, h => by simpa [shf] using h
  | n + 1, m, cs, L, hl, h => by
    have b := syn_bd hd cs h
    have l := syn_len d cs
    intro x hx
    rw [shf] at hx
    have up : ∀ k : Nat, k ≤ m + 7 * L * (n + 1) → (2 : Nat) ^ k ≤ 2 ^ (m + 7 * L * (n + 1)) := fun k hk => Nat.pow_le_pow_right (by omega) hk
    have mm : 7 * L * (n + 1) = 7 * L * n + 7 * L := by rw [Nat.mul_succ]
    have pos : 0 ≤ 7 * L * n := Nat.zero_le _
    cases hs : syn d cs with
    | nil => rw [hs] at hx; cases hx
    | cons v q =>
      rw [hs] at hx b l
      have b' : ∀ c ∈ v :: q, c.natAbs < 2 ^ (m + 7 * L) := fun c hc => Nat.lt_of_lt_of_le (b c hc) (Nat.pow_le_pow_right (by omega) (by omega))
      rcases List.mem_cons.mp hx with hx | hx
      · subst hx
        exact Nat.lt_of_lt_of_le (b' x List.mem_cons_self) (up _ (by omega))
      · have ih := shf_bd hd n (m + 7 * L) q L (by rw [List.length_cons] at l; omega) (fun c hc => b' c (List.mem_cons_of_mem _ hc)) x hx
        exact Nat.lt_of_lt_of_le ih (up _ (by omega))
theorem scl_bd {p : Int} (hp : p.natAbs < 128) : ∀ (cs : List Int) (b : Int) (m k : Nat), b.natAbs < 2 ^ k → (∀ c ∈ cs, c.natAbs < 2 ^ m) → ∀ c ∈ scl p b cs, c.natAbs < 2 ^ (m + k + 7 * cs.length)
  | [], b, m, k, _, _ => by simp [scl]
  | c :: r, b, m, k, hb, h => by
    intro x hx
    rw [scl] at hx
    rcases List.mem_cons.mp hx with hx | hx
    · subst hx
      rw [Int.natAbs_mul]
      have : c.natAbs * b.natAbs < 2 ^ m * 2 ^ k := Nat.mul_lt_mul'' (h c List.mem_cons_self) hb
      rw [← Nat.pow_add] at this
      exact Nat.lt_of_lt_of_le this (Nat.pow_le_pow_right (by omega) (by omega))
    · have hb' : (b * p).natAbs < 2 ^ (k + 7) := by
        rw [Int.natAbs_mul, Nat.pow_add]
        exact Nat.mul_lt_mul'' hb (by omega)
      have ih := scl_bd hp r (b * p) m (k + 7) hb' (fun c hc => h c (List.mem_cons_of_mem _ hc)) x hx
      rw [List.length_cons]
      exact Nat.lt_of_lt_of_le ih (Nat.pow_le_pow_right (by omega) (by omega))
end PM
namespace PM
open PL (leastI leastI_mem leastI_le)
/-- the last number is not 0 -/
def NzL (cs : List Int) : Prop := ∃ x, cs.getLast? = some x ∧ x ≠ 0
theorem NzL.ne {cs : List Int} (h : NzL cs) : cs ≠ [] := fun z => by obtain ⟨x, e, _⟩ := h; rw [z] at e; cases e
theorem NzL.tail {c d : Int} {r : List Int} (h : NzL (c :: d :: r)) : NzL (d :: r) := by
  obtain ⟨x, e, n⟩ := h; exact ⟨x, by rw [List.getLast?_cons_cons] at e; exact e, n⟩
theorem NzL.cons {c : Int} {r : List Int} (h : NzL r) : NzL (c :: r) := by
  cases r with
  | nil => exact absurd rfl h.ne
  | cons d r => obtain ⟨x, e, n⟩ := h; exact ⟨x, by rw [List.getLast?_cons_cons]; exact e, n⟩
theorem NzL.mem {cs : List Int} (h : NzL cs) : ∃ c ∈ cs, c ≠ 0 := by
  obtain ⟨x, e, n⟩ := h; exact ⟨x, List.mem_of_getLast? e, n⟩
theorem syn_nz (d : Int) : ∀ cs : List Int, NzL cs → NzL (syn d cs)
  | [], h => absurd rfl h.ne
  | [c], h => by simpa [syn] using h
  | c :: a :: r, h => by
    have ih := syn_nz d (a :: r) h.tail
    rw [syn]; exact ih.cons
theorem shf_nz (d : Int) : ∀ (n : Nat) (cs : List Int), NzL cs → NzL (shf d n cs)
  | 0, _, h => h
  | n + 1, cs, h => by
    have s := syn_nz d cs h
    rw [shf]
    cases hs : syn d cs with
    | nil => exact absurd hs s.ne
    | cons v q =>
      rw [hs] at s
      cases q with
      | nil =>
        dsimp only
        have : shf d n [] = [] := List.length_eq_zero_iff.mp (by rw [shf_len]; rfl)
        rw [this]; exact s
      | cons a r => exact (shf_nz d n (a :: r) s.tail).cons
theorem scl_nz {p : Int} (hp : p ≠ 0) : ∀ (cs : List Int) (b : Int), b ≠ 0 → NzL cs → NzL (scl p b cs)
  | [], _, _, h => absurd rfl h.ne
  | [c], b, hb, h => by
    obtain ⟨x, e, n⟩ := h
    cases e
    exact ⟨c * b, rfl, Int.mul_ne_zero n hb⟩
  | c :: a :: r, b, hb, h => (scl_nz hp (a :: r) (b * p) (Int.mul_ne_zero hb hp) h.tail).cons
theorem nz_of_map {k : Int} {qs : List Int} (h : NzL (qs.map fun q => k * q)) : NzL qs := by
  obtain ⟨x, e, n⟩ := h
  rw [List.getLast?_map] at e
  cases hq : qs.getLast? with
  | none => rw [hq] at e; cases e
  | some y => rw [hq] at e; cases e; exact ⟨y, hq, fun z => n (by rw [z]; simp)⟩
/-- all numbers so many times divided -/
def dvs (p : Int) (n : Nat) (cs : List Int) : List Int := cs.map fun c => c / p ^ n
theorem dvs_len (p : Int) (n : Nat) (cs : List Int) : (dvs p n cs).length = cs.length := List.length_map ..
noncomputable def exps (p : Int) (cs : List Int) : List Int := (cs.filter fun c => decide (c ≠ 0)).map (vp p)
noncomputable def lfN (p : Int) (cs : List Int) : Nat := (leastI (exps p cs)).toNat
noncomputable def lfQ (p : Int) (cs : List Int) : List Int := dvs p (lfN p cs) cs
theorem lfQ_len (p : Int) (cs : List Int) : (lfQ p cs).length = cs.length := dvs_len ..
theorem exps_ne {p : Int} {cs : List Int} (h : NzL cs) : exps p cs ≠ [] := by
  obtain ⟨c, hc, n⟩ := h.mem
  intro z
  unfold exps at z
  rw [List.map_eq_nil_iff] at z
  have : c ∈ cs.filter fun c => decide (c ≠ 0) := List.mem_filter.mpr ⟨hc, decide_eq_true n⟩
  rw [z] at this; cases this
theorem exps_mem {p x : Int} {cs : List Int} (h : x ∈ exps p cs) : ∃ c ∈ cs, c ≠ 0 ∧ x = vp p c := by
  unfold exps at h
  obtain ⟨c, hc, rfl⟩ := List.mem_map.mp h
  obtain ⟨h1, h2⟩ := List.mem_filter.mp hc
  exact ⟨c, h1, of_decide_eq_true h2, rfl⟩
theorem vp_nn {p c : Int} (hp : 2 ≤ p) (h : c ≠ 0) : 0 ≤ vp p c := by
  obtain ⟨m, v, e, hm, hv⟩ := vp_spec hp h
  rw [hv]; omega
theorem lfN_eq {p : Int} {cs : List Int} (hp : 2 ≤ p) (h : NzL cs) : leastI (exps p cs) = lfN p cs := by
  obtain ⟨c, hc, n, e⟩ := exps_mem (leastI_mem (exps_ne (p := p) h))
  have := vp_nn hp n
  unfold lfN; omega
theorem lfN_dvd {p : Int} {cs : List Int} (hp : 2 ≤ p) (h : NzL cs) : ∀ c ∈ cs, c = p ^ lfN p cs * (c / p ^ lfN p cs) := by
  intro c hc
  have P : p ^ lfN p cs ≠ 0 := Int.pow_ne_zero (by omega)
  by_cases z : c = 0
  · subst z; simp
  · obtain ⟨m, v, e, hm, hv⟩ := vp_spec hp z
    have l : leastI (exps p cs) ≤ vp p c := leastI_le _ (by
      unfold exps
      exact List.mem_map.mpr ⟨c, List.mem_filter.mpr ⟨hc, decide_eq_true z⟩, rfl⟩)
    rw [lfN_eq hp h, hv] at l
    obtain ⟨k, rfl⟩ : ∃ k, v = lfN p cs + k := ⟨v - lfN p cs, by omega⟩
    rw [Int.mul_ediv_cancel']
    exact ⟨m * p ^ k, by rw [e, Int.pow_add]; grind⟩
theorem lfQ_eq {p : Int} {cs : List Int} (hp : 2 ≤ p) (h : NzL cs) : cs = (lfQ p cs).map fun q => p ^ lfN p cs * q := by
  unfold lfQ dvs
  rw [List.map_map]
  conv => lhs; rw [← List.map_id cs]
  exact List.map_congr_left fun c hc => lfN_dvd hp h c hc
theorem lfQ_no {p : Int} {cs : List Int} (hp : 2 ≤ p) (h : NzL cs) : ∃ q ∈ lfQ p cs, q % p ≠ 0 := by
  obtain ⟨c, hc, n, e⟩ := exps_mem (leastI_mem (exps_ne (p := p) h))
  obtain ⟨m, v, e2, hm, hv⟩ := vp_spec hp n
  have l := lfN_eq hp h
  refine ⟨c / p ^ lfN p cs, List.mem_map.mpr ⟨c, hc, rfl⟩, ?_⟩
  have : v = lfN p cs := by rw [hv] at e; omega
  rw [← this, e2, Int.mul_ediv_cancel _ (Int.pow_ne_zero (by omega))]
  exact hm
theorem lfQ_nz {p : Int} {cs : List Int} (hp : 2 ≤ p) (h : NzL cs) : NzL (lfQ p cs) := by
  have e := lfQ_eq hp h
  exact nz_of_map (k := p ^ lfN p cs) (by rw [← e]; exact h)
theorem lfQ_bd {p : Int} {cs : List Int} {m : Nat} (h : ∀ c ∈ cs, c.natAbs < 2 ^ m) : ∀ c ∈ lfQ p cs, c.natAbs < 2 ^ m := by
  intro q hq
  unfold lfQ dvs at hq
  obtain ⟨c, hc, rfl⟩ := List.mem_map.mp hq
  exact Nat.lt_of_le_of_lt (Int.natAbs_ediv_le_natAbs c _) (h c hc)
theorem ev_lfQ {p : Int} {cs : List Int} (hp : 2 ≤ p) (h : NzL cs) (z : Int) : ev cs z = p ^ lfN p cs * ev (lfQ p cs) z := by
  conv => lhs; rw [lfQ_eq hp h]
  exact ev_mul _ z _
theorem lfN_lt {p : Int} {cs : List Int} {m : Nat} (hp : 2 ≤ p) (h : NzL cs) (hb : ∀ c ∈ cs, c.natAbs < 2 ^ m) : lfN p cs < m := by
  obtain ⟨c, hc, n, e⟩ := exps_mem (leastI_mem (exps_ne (p := p) h))
  have := vp_le hp n (hb c hc)
  have l := lfN_eq hp h
  omega
/-- seen from one figure more -/
noncomputable def on1 (p : Int) (cs : List Int) (d : Int) : List Int := scl p 1 (shf d (cs.length - 1) cs)
theorem on1_len (p : Int) (cs : List Int) (d : Int) : (on1 p cs d).length = cs.length := by unfold on1; rw [scl_len, shf_len]
theorem on1_nz {p : Int} {cs : List Int} (hp : 2 ≤ p) (h : NzL cs) (d : Int) : NzL (on1 p cs d) := scl_nz (by omega) _ 1 (by omega) (shf_nz d _ cs h)
theorem ev_on1 {p : Int} {cs : List Int} (d z : Int) : ev (on1 p cs d) z = ev cs (d + p * z) := by
  unfold on1
  rw [ev_scl, Int.one_mul, ev_shf d (p * z) _ cs (by omega)]
theorem on1_bd {p : Int} {cs : List Int} {d : Int} {m : Nat} (hp : p.natAbs < 127) (hd : d.natAbs < 127) (hl : cs.length ≤ 9) (h : ∀ c ∈ cs, c.natAbs < 2 ^ m) : ∀ c ∈ on1 p cs d, c.natAbs < 2 ^ (m + 600) := by
  intro c hc
  have b1 := shf_bd (d := d) (by omega) (cs.length - 1) m cs 9 hl h
  have b2 := scl_bd (p := p) (by omega) _ 1 _ 1 (by decide) b1 c hc
  refine Nat.lt_of_lt_of_le b2 (Nat.pow_le_pow_right (by omega) ?_)
  rw [shf_len]
  have : 7 * 9 * (cs.length - 1) ≤ 7 * 9 * 8 := Nat.mul_le_mul_left _ (by omega)
  omega
/-- seen from a stem -/
noncomputable def seeL (p : Int) : Nat × List Int → List Int → Nat × List Int
  | s, [] => s
  | s, d :: ds => seeL p (s.1 + lfN p (on1 p s.2 d), lfQ p (on1 p s.2 d)) ds
noncomputable def see (p : Int) (cs : List Int) (ds : List Int) : Nat × List Int := seeL p (lfN p cs, lfQ p cs) ds
/-- a stem's sum -/
def sm (p : Int) : List Int → Int
  | [] => 0
  | d :: ds => d + p * sm p ds
structure Seen (p : Int) (cs : List Int) (s : Int) (k : Nat) (t : Nat × List Int) : Prop where
  ev : ∀ z, ev cs (s + p ^ k * z) = p ^ t.1 * ev t.2 z
  nz : NzL t.2
  no : ∃ q ∈ t.2, q % p ≠ 0
  len : t.2.length = cs.length
theorem Seen.start {p : Int} {cs : List Int} (hp : 2 ≤ p) (h : NzL cs) : Seen p cs 0 0 (lfN p cs, lfQ p cs) :=
  ⟨fun z => by rw [Int.zero_add, Int.pow_zero, Int.one_mul]; exact ev_lfQ hp h z, lfQ_nz hp h, lfQ_no hp h, lfQ_len ..⟩
theorem Seen.on {p : Int} {cs : List Int} {s : Int} {k : Nat} {t : Nat × List Int} (hp : 2 ≤ p) (h : Seen p cs s k t) (d : Int) : Seen p cs (s + p ^ k * d) (k + 1) (t.1 + lfN p (on1 p t.2 d), lfQ p (on1 p t.2 d)) := by
  have n := on1_nz hp h.nz d
  refine ⟨fun z => ?_, lfQ_nz hp n, lfQ_no hp n, by rw [lfQ_len, on1_len, h.len]⟩
  have e := h.ev (d + p * z)
  rw [← ev_on1 (p := p) (cs := t.2) d z, ev_lfQ hp n z] at e
  rw [show s + p ^ k * d + p ^ (k + 1) * z = s + p ^ k * (d + p * z) by rw [Int.pow_succ]; grind, e]
  show _ = p ^ (t.1 + lfN p (on1 p t.2 d)) * _
  rw [Int.pow_add]; grind
theorem seeL_ok {p : Int} {cs : List Int} (hp : 2 ≤ p) : ∀ (ds : List Int) (s : Int) (k : Nat) (t : Nat × List Int), Seen p cs s k t → Seen p cs (s + p ^ k * sm p ds) (k + ds.length) (seeL p t ds)
  | [], s, k, t, h => by simpa [sm, seeL] using h
  | d :: ds, s, k, t, h => by
    have ih := seeL_ok hp ds _ _ _ (h.on hp d)
    rw [seeL, sm, List.length_cons]
    rw [show s + p ^ k * (d + p * sm p ds) = s + p ^ k * d + p ^ (k + 1) * sm p ds by rw [Int.pow_succ]; grind, show k + (ds.length + 1) = k + 1 + ds.length by omega]
    exact ih
theorem see_ok {p : Int} {cs : List Int} (hp : 2 ≤ p) (h : NzL cs) (ds : List Int) : Seen p cs (sm p ds) ds.length (see p cs ds) := by
  have r := seeL_ok hp ds 0 0 _ (Seen.start hp h)
  rw [Int.zero_add, Int.pow_zero, Int.one_mul, Nat.zero_add] at r
  exact r
theorem seeL_bd {p : Int} (hp : p.natAbs < 127) : ∀ (ds : List Int) (t : Nat × List Int) (m : Nat), (∀ d ∈ ds, d.natAbs < 127) → t.2.length ≤ 9 → (∀ c ∈ t.2, c.natAbs < 2 ^ m) → ∀ c ∈ (seeL p t ds).2, c.natAbs < 2 ^ (m + 600 * ds.length)
  | [], t, m, _, _, h => h
  | d :: ds, t, m, hd, hl, h => by
    rw [seeL, List.length_cons]
    have := seeL_bd hp ds (t.1 + lfN p (on1 p t.2 d), lfQ p (on1 p t.2 d)) (m + 600) (fun x hx => hd x (List.mem_cons_of_mem _ hx)) (by rw [lfQ_len, on1_len]; exact hl) (lfQ_bd (on1_bd hp (hd d List.mem_cons_self) hl h))
    rw [show m + 600 * (ds.length + 1) = m + 600 + 600 * ds.length by omega]
    exact this
end PM
namespace PM
open PySem PySem.Spec L2 PL
open PyProof.Rows hiding St
theorem shift_in (x fi : PV) (d : Int) (hd : d.natAbs < 127) (m : Nat) (hm : m ≤ 1000000) : ∀ (n : Nat) (P A B : List Int) (s4 : Slot), A.length = n → B ≠ [] → (∀ c ∈ A ++ B, c.natAbs < 2 ^ m) → P.length + A.length + B.length ≤ 1000 →
    ∃ s4', forL (gN 4) (bSeq (sAugI 2 (eV 4) (e2 mulP (eVo 1) (e2 ixP (eVo 2) (e2 addP (eVo 4) (eC (.int 1)))))) bNil) (rngDn ((P.length : Int) + n - 1) n) [.val x, .val (.int d), .own ((P ++ (A ++ syn d B)).map PV.int), .val fi, s4] = .next [.val x, .val (.int d), .own ((P ++ syn d (A ++ B)).map PV.int), .val fi, s4']
  | 0, P, A, B, s4, hA, hB, hb, hl => by
    have : A = [] := List.length_eq_zero_iff.mp hA
    subst this
    exact ⟨s4, by rw [rngDn_zero, forL_nil]; rfl⟩
  | n + 1, P, A, B, s4, hA, hB, hb, hl => by
    obtain ⟨A', a, rfl⟩ : ∃ A' a, A = A' ++ [a] := by
      rcases List.eq_nil_or_concat A with z | ⟨A', a, z⟩
      · rw [z] at hA; simp at hA
      · exact ⟨A', a, by rw [z, List.concat_eq_append]⟩
    rw [List.length_append, List.length_singleton] at hA hl
    have eAB : A' ++ [a] ++ B = A' ++ (a :: B) := by simp
    rw [eAB] at hb ⊢
    obtain ⟨s4', ih⟩ := shift_in x fi d hd m hm n P A' (a :: B) (.val (.int ((P.length : Int) + n))) (by omega) (fun z => nomatch z) hb (by rw [List.length_cons]; omega)
    refine ⟨s4', ?_⟩
    rw [← ih, rngDn_succ, forL_cons, gN_eq, onR_some]
    obtain ⟨h0, T, hs⟩ : ∃ h T, syn d B = h :: T := by
      have l := syn_len d B
      cases q : syn d B with
      | nil => rw [q] at l; exact absurd (List.length_eq_zero_iff.mp l.symm) hB
      | cons h T => exact ⟨h, T, rfl⟩
    have hh : h0.natAbs < 2 ^ (m + 7 * B.length) := syn_bd (by omega) B (fun c hc => hb c (List.mem_append_right _ (List.mem_cons_of_mem _ hc))) h0 (by rw [hs]; exact List.mem_cons_self)
    have mu : mulP (.int d) (.int h0) = .ok (.int (d * h0)) := mulP_ii (okMul_of (m := 7) (by omega) hh (by omega) (by omega) (by
      have : 1 ≤ B.length := by
        cases B with
        | nil => exact absurd rfl hB
        | cons _ _ => simp
      omega))
    have e1 : (P.length : Int) + ((n + 1 : Nat) : Int) - 1 = ((P.length + n : Nat) : Int) := by omega
    have e2' : (P.length : Int) + ((n + 1 : Nat) : Int) - 1 - 1 = (P.length : Int) + n - 1 := by omega
    rw [e2', e1]
    have Ls : P ++ (A' ++ [a] ++ (h0 :: T)) = (P ++ A') ++ a :: h0 :: T := by simp
    rw [hs, Ls]
    have PA : (P ++ A').length = P.length + n := by rw [List.length_append]; omega
    have LL : ((P ++ A') ++ a :: h0 :: T).length = P.length + n + (T.length + 2) := by rw [List.length_append, PA]; rfl
    have Tl : T.length + 1 = B.length := by rw [← syn_len d B, hs]; rfl
    have gi : ((P ++ A') ++ a :: h0 :: T).getD (P.length + n) 0 = a := by
      rw [List.getD_eq_getElem?_getD, List.getElem?_append_right (by omega), PA, Nat.sub_self]; rfl
    have g := getN_ints (ns := (P ++ A') ++ a :: h0 :: T) (k := ((P.length + n : Nat) : Int)) (by omega) (by omega) (by omega)
    rw [Int.toNat_natCast, gi] at g
    have ix : ixP (.lst (((P ++ A') ++ a :: h0 :: T).map PV.int)) (.int (((P.length + n : Nat) : Int) + 1)) = .ok (.int h0) := ixP_lst (by omega) (by
      rw [show (((P.length + n : Nat) : Int) + 1).toNat = P.length + n + 1 by omega, List.getElem?_map, List.getElem?_append_right (by omega), PA, show P.length + n + 1 - (P.length + n) = 1 by omega]; rfl)
    have ag := augN_ints (ns := (P ++ A') ++ a :: h0 :: T) (k := ((P.length + n : Nat) : Int)) (a := a) (b := d * h0) (by omega) (by omega)
    rw [Int.toNat_natCast] at ag
    have st : ((P ++ A') ++ a :: h0 :: T).set (P.length + n) (a + d * h0) = P ++ (A' ++ syn d (a :: B)) := by
      rw [List.set_append_right _ _ (by omega), PA, Nat.sub_self, syn, hs]
      simp
    rw [st] at ag
    simp only [List.set_cons_succ, List.set_cons_zero, bSeq_eq, sAugI_eq, getOwn0, getOwnS, onOwn_some, e2_eq, eVs, eV0, eVos, eVo0, eVo0', eC_eq, bind1, addP_ii, st_ok, g, onSome_some, ix, mu, ag, own_ok, then_next, bNil_eq, fo_next]
    rw [Int.natCast_add]
theorem shift_out (x : PV) (d : Int) (hd : d.natAbs < 127) : ∀ (n : Nat) (m : Nat) (P R : List Int) (s3 s4 : Slot), R.length = n + 1 → (∀ c ∈ R, c.natAbs < 2 ^ m) → m + 7000 * n ≤ 1000000 → P.length + R.length ≤ 1000 →
    ∃ s3' s4', forL (gN 3) (bSeq (sFor (iR rng3 (aCons (e2 subP (eD lenP (aCons (eVo 2) aNil)) (eC (.int 2))) (aCons (e2 subP (eVo 3) (eC (.int 1))) (aCons (e1 negP (eC (.int 1))) aNil)))) (gN 4) (bSeq (sAugI 2 (eV 4) (e2 mulP (eVo 1) (e2 ixP (eVo 2) (e2 addP (eVo 4) (eC (.int 1)))))) bNil)) bNil) (rngL P.length n) [.val x, .val (.int d), .own ((P ++ R).map PV.int), s3, s4] = .next [.val x, .val (.int d), .own ((P ++ shf d n R).map PV.int), s3', s4']
  | 0, m, P, R, s3, s4, hR, _, _, _ => ⟨s3, s4, by
    rw [show rngL (P.length : Int) 0 = [] from rfl, forL_nil]; rfl⟩
  | n + 1, m, P, R, s3, s4, hR, hb, hm, hl => by
    obtain ⟨A, b, rfl⟩ : ∃ A' a, R = A' ++ [a] := by
      rcases List.eq_nil_or_concat R with z | ⟨A', a, z⟩
      · rw [z] at hR; simp at hR
      · exact ⟨A', a, by rw [z, List.concat_eq_append]⟩
    rw [List.length_append, List.length_singleton] at hR hl
    obtain ⟨s4', i1⟩ := shift_in x (.int P.length) d hd m (by omega) (n + 1) P A [b] s4 (by omega) (fun z => nomatch z) hb (by simp; omega)
    have sb : syn d [b] = [b] := by simp [syn]
    rw [sb] at i1
    have sl : (syn d (A ++ [b])).length = n + 2 := by rw [syn_len, List.length_append, List.length_singleton]; omega
    obtain ⟨v, q, hs⟩ : ∃ v q, syn d (A ++ [b]) = v :: q := by
      cases z : syn d (A ++ [b]) with
      | nil => rw [z] at sl; simp at sl
      | cons v q => exact ⟨v, q, rfl⟩
    have bd := syn_bd (by omega) (A ++ [b]) hb
    rw [hs] at sl bd
    rw [List.length_cons] at sl
    have L7 : (A ++ [b]).length ≤ 1000 := by rw [List.length_append, List.length_singleton]; omega
    obtain ⟨s3'', s4'', i2⟩ := shift_out x d hd n (m + 7000) (P ++ [v]) q (.val (.int P.length)) s4' (by omega) (fun c hc => Nat.lt_of_lt_of_le (bd c (List.mem_cons_of_mem _ hc)) (Nat.pow_le_pow_right (by omega) (by omega))) (by omega) (by simp; omega)
    refine ⟨s3'', s4'', ?_⟩
    have fin : P ++ shf d (n + 1) (A ++ [b]) = P ++ [v] ++ shf d n q := by rw [shf, hs]; simp
    rw [fin, ← i2, rngL_step, forL_cons, gN_eq, onR_some]
    have e1 : ((P ++ [v]).length : Int) = (P.length : Int) + 1 := by simp
    rw [e1]
    have len : lenP [.lst ((P ++ (A ++ [b])).map PV.int)] = .ok (.int ((P.length : Int) + n + 2)) := by
      simp; omega
    have r3 : rng3 [.int ((P.length : Int) + n + 2 - 2), .int ((P.length : Int) - 1), .int (-1)] = .ok (rngDn ((P.length : Int) + (n + 1 : Nat) - 1) (n + 1)) := by
      rw [rng3_sm (by omega) (by omega) (by omega) (by omega)]
      rw [show ((P.length : Int) + n + 2 - 2 - ((P.length : Int) - 1)).toNat = n + 1 by omega, show (P.length : Int) + n + 2 - 2 = (P.length : Int) + (n + 1 : Nat) - 1 by omega]
    rw [hs] at i1
    simp only [List.set_cons_succ, List.set_cons_zero]
    rw [sqF (ρ' := [.val x, .val (.int d), .own ((P ++ (v :: q)).map PV.int), .val (.int P.length), s4']) (rngDn ((P.length : Int) + (n + 1 : Nat) - 1) (n + 1)) (by
      simp only [iR_eq, aCons_eq, aNil_eq, e2_eq, e1_eq, eD_eq, eVos, eVo0, eVo0', eC_eq, bind1, len, subP_ii, negP_eq, r3]) i1 rfl, bNil_eq, fo_next]
    rw [show P ++ [v] ++ q = P ++ v :: q by simp]
theorem f_shifted {cs : List Int} {d : Int} {m : Nat} (hd : d.natAbs < 127) (h1 : 1 ≤ cs.length) (h2 : cs.length ≤ 9) (hb : ∀ c ∈ cs, c.natAbs < 2 ^ m) (hm : m ≤ 900000) : F_shifted [.lst (cs.map PV.int), .int d] = .ok (.lst ((shf d (cs.length - 1) cs).map PV.int)) := by
  obtain ⟨s3, s4, i⟩ := shift_out (.lst (cs.map PV.int)) d hd (cs.length - 1) m [] cs .un .un (by omega) hb (by omega) (by simp; omega)
  rw [List.nil_append, List.nil_append] at i
  have ln : lenP [.lst (cs.map PV.int)] = .ok (.int cs.length) := by simp
  refine (runF_eq (n := 5) (u := D_shifted)).trans ?_
  show (D_shifted [.val (.lst (cs.map PV.int)), .val (.int d), .un, .un, .un]).res = _
  unfold D_shifted
  refine stpN (ρ' := [.val (.lst (cs.map PV.int)), .val (.int d), .own (cs.map PV.int), .un, .un]) (by
    simp only [sSetO_eq, eD_eq, aCons_eq, aNil_eq, eVo0, bind1, listP_l, st_ok, asL_l, own_ok, List.set_cons_succ, List.set_cons_zero]) ?_
  refine stpFor (rngL 0 (cs.length - 1)) _ (by
    simp only [iR_eq, aCons_eq, aNil_eq, e2_eq, eD_eq, eVos, eVo0', eC_eq, bind1, ln, subP_ii]
    rw [rng1_sm (by omega) (by omega), show ((cs.length : Int) - 1).toNat = cs.length - 1 by omega]) i ?_
  simp only [bSeq_eq, sRetO_eq, getOwn0, getOwnS, onOwn_some, then_ret, res_ret]
end PM
set_option Elab.async false
set_option linter.all false
set_option maxRecDepth 100000
set_option autoImplicit false
set_option exponentiation.threshold 20000
namespace PM
open PySem PySem.Spec L2 PL
open PyProof.Rows hiding St
theorem sAug_at {i : Nat} {w : PV → PV → R PV} {f : Rho → R PV} {ρ : Rho} {x y z : PV} (hx : ρ[i]? = some (.val x)) (hf : f ρ = .ok y) (hw : w x y = .ok z) : sAug i w f ρ = .next (ρ.set i (.val z)) := by
  rw [sAug0, hx]; simp only [hf, bind1, hw, st_ok]
theorem sqG {i : Nat} {w : PV → PV → R PV} {f : Rho → R PV} {k : Rho → Out} {ρ : Rho} {o : Out} (x y z : PV) (hx : ρ[i]? = some (.val x)) (hf : f ρ = .ok y) (hw : w x y = .ok z) (g : k (ρ.set i (.val z)) = o) : bSeq (sAug i w f) k ρ = o := sqN (sAug_at hx hf hw) g
theorem lift_lc {p : Int} (hp : 2 ≤ p) (hp2 : p < 2 ^ 8000) (x : PV) : ∀ cs : List Int, lcGo (gN 5) (tB1 (e2 neP (eVo 5) (eC (.int 0)))) (eD F_exponent (aCons (eV 0) (aCons (eV 5) aNil))) [.val (.int p), .val x, .un, .un, .un, .un] (cs.map PV.int) = .ok ((exps p cs).map PV.int)
  | [] => rfl
  | c :: r => by
    have ih := lift_lc hp hp2 x r
    rw [List.map_cons, lcGo, show gN 5 (.int c) [.val (.int p), .val x, .un, .un, .un, .un] = some [.val (.int p), .val x, .un, .un, .un, .val (.int c)] from rfl]
    dsimp only
    have t : tB1 (e2 neP (eVo 5) (eC (.int 0))) [.val (.int p), .val x, .un, .un, .un, .val (.int c)] = .ok (!(c == 0)) := by
      simp only [tB1_eq, e2_eq, eVos, eVo0, eC_eq, bind1, neP_ii, asB_eq]
    rw [t]
    by_cases z : c = 0
    · subst z
      rw [show (!((0 : Int) == 0)) = false from rfl]
      dsimp only
      rw [ih]
      unfold exps
      rw [List.filter_cons_of_neg (by simp)]
    · have e : (c == 0) = false := by rw [beq_eq_false_iff_ne]; exact z
      rw [e, Bool.not_false]
      dsimp only
      have f := f_exp hp hp2 z
      rw [show eD F_exponent (aCons (eV 0) (aCons (eV 5) aNil)) [.val (.int p), .val x, .un, .un, .un, .val (.int c)] = .ok (.int (vp p c)) by simp only [eD_eq, aCons_eq, aNil_eq, eV0, eVs, bind1, f]]
      dsimp only
      rw [ih]
      unfold exps
      rw [List.filter_cons_of_pos (by simpa using z)]
      rfl
theorem div_lc {p : Int} (hp : 2 ≤ p) (hp2 : p < 2 ^ 8000) (ρ : Rho) (h0 : ρ = .val (.int p) :: ρ.tail) (h6 : ρ.length = 6) : ∀ cs : List Int, lcGo (gN 5) cYes (e2 fdivP (eVo 5) (eVo 0)) ρ (cs.map PV.int) = .ok ((cs.map fun c => c / p).map PV.int)
  | [] => rfl
  | c :: r => by
    have ih := div_lc hp hp2 ρ h0 h6 r
    rw [List.map_cons, lcGo, gN_eq]
    dsimp only [cYes]
    have g5 : (ρ.set 5 (.val (.int c)))[5]? = some (.val (.int c)) := List.getElem?_set_self (by omega)
    have g0 : (ρ.set 5 (.val (.int c)))[0]? = some (.val (.int p)) := by rw [List.getElem?_set_ne (by omega), h0]; rfl
    have f := fdivP_pos (a := c) (b := p) (by omega) (Int.lt_of_lt_of_le hp2 (by decide))
    rw [show e2 fdivP (eVo 5) (eVo 0) (ρ.set 5 (.val (.int c))) = .ok (.int (c / p)) by simp only [e2_eq, eVo_of g5, eVo_of g0, bind1, f]]
    dsimp only
    rw [ih]
    rfl
theorem dvs_succ {p : Int} (hp : 2 ≤ p) (n : Nat) (cs : List Int) : dvs p n (cs.map fun c => c / p) = dvs p (n + 1) cs := by
  unfold dvs
  rw [List.map_map]
  refine List.map_congr_left fun c _ => ?_
  show c / p / p ^ n = c / p ^ (n + 1)
  rw [Int.pow_succ, Int.mul_comm, Int.ediv_ediv_of_nonneg (by omega)]
theorem div_loop {p : Int} (hp : 2 ≤ p) (hp2 : p < 2 ^ 8000) (x l : PV) : ∀ (n : Nat) (a : Int) (cs : List Int) (s4 : Slot), cs.length ≤ 1000 →
    ∃ s4', forL (gN 4) (bSeq (sSet 3 (eLc [5] (iS (eV 3)) (gN 5) cYes (e2 fdivP (eVo 5) (eVo 0)))) bNil) (rngL a n) [.val (.int p), .val x, .val l, .val (.lst (cs.map PV.int)), s4, .un] = .next [.val (.int p), .val x, .val l, .val (.lst ((dvs p n cs).map PV.int)), s4', .un]
  | 0, a, cs, s4, _ => ⟨s4, by
    rw [show rngL a 0 = [] from rfl, forL_nil]
    have : dvs p 0 cs = cs := by unfold dvs; simp
    rw [this]⟩
  | n + 1, a, cs, s4, hl => by
    obtain ⟨s4', ih⟩ := div_loop hp hp2 x l n (a + 1) (cs.map fun c => c / p) (.val (.int a)) (by rw [List.length_map]; exact hl)
    refine ⟨s4', ?_⟩
    rw [dvs_succ hp] at ih
    rw [← ih, rngL_step, forL_cons, gN_eq, onR_some]
    simp only [List.set_cons_succ, List.set_cons_zero]
    have L := eLc_ok (vs := [5]) (it := iS (eV 3)) (ρ := [.val (.int p), .val x, .val l, .val (.lst (cs.map PV.int)), .val (.int a), .un]) (items := cs.map PV.int) rfl (by simp only [iS_eq, eVs, eV0, bind1, asS_l]) (by rw [List.length_map]; omega) (div_lc hp hp2 (wipeR [.val (.int p), .val x, .val l, .val (.lst (cs.map PV.int)), .val (.int a), .un] [5]) rfl rfl cs)
    simp only [bSeq_eq, sSet_eq, L, st_ok, then_next, bNil_eq, fo_next, List.set_cons_succ, List.set_cons_zero]
theorem f_liftedX {p : Int} {cs : List Int} {x : PV} (hx : asS x = .ok (cs.map PV.int)) (hx2 : listP [x] = .ok (.lst (cs.map PV.int))) (hp : 2 ≤ p) (hp2 : p < 2 ^ 8000) (h : NzL cs) (hl : cs.length ≤ 1000) (hz : lfN p cs ≤ 1000000) : F_lifted [.int p, x] = .ok (.tup [.int (lfN p cs), .lst ((lfQ p cs).map PV.int)]) := by
  have el : (exps p cs).length ≤ 1000 := by
    unfold exps; rw [List.length_map]; exact Nat.le_trans (List.length_filter_le ..) hl
  have L := eLc_ok (vs := [5]) (it := iS (eV 1)) (tgt := gN 5) (ρ := [.val (.int p), .val x, .un, .un, .un, .un]) (items := cs.map PV.int) rfl (by simp only [iS_eq, eVs, eV0, bind1, hx]) (by rw [List.length_map]; omega) (lift_lc hp hp2 x cs)
  have mn := minPL_ok (exps_ne (p := p) h)
  rw [lfN_eq hp h] at mn
  obtain ⟨s4', i⟩ := div_loop hp hp2 x (.int (lfN p cs)) (lfN p cs) 0 cs .un hl
  refine (runF_eq (n := 6) (u := D_lifted)).trans ?_
  show (D_lifted [.val (.int p), .val x, .un, .un, .un, .un]).res = _
  unfold D_lifted
  refine stp (.int (lfN p cs)) (by rw [eD_eq, aCons_eq, L, bind1, aNil_eq, bind1, bind1, mn]) ?_
  simp only [List.set_cons_succ, List.set_cons_zero]
  refine stp (.lst (cs.map PV.int)) (by simp only [eD_eq, aCons_eq, aNil_eq, eVos, eVo0, bind1, hx2]) ?_
  simp only [List.set_cons_succ, List.set_cons_zero]
  refine stpFor (rngL 0 (lfN p cs)) _ (by
    simp only [iR_eq, aCons_eq, aNil_eq, eVos, eVo0, bind1]
    rw [rng1_sm (by omega) (by omega), Int.toNat_natCast]) i ?_
  simp only [bSeq_eq, sRet_eq, eD_eq, aCons_eq, aNil_eq, eVs, eV0, bind1, tupP2, st_ok, then_ret, res_ret]
  rfl
theorem f_lifted {p : Int} {cs : List Int} (hp : 2 ≤ p) (hp2 : p < 2 ^ 8000) (h : NzL cs) (hl : cs.length ≤ 1000) (hz : lfN p cs ≤ 1000000) : F_lifted [.int p, .lst (cs.map PV.int)] = .ok (.tup [.int (lfN p cs), .lst ((lfQ p cs).map PV.int)]) := f_liftedX asS_l listP_l hp hp2 h hl hz
theorem scl_loop {p : Int} (hp : p.natAbs < 127) (x y : PV) (m : Nat) (hm : m ≤ 900000) : ∀ (r acc : List Int) (b : Int) (k : Nat) (s5 : Slot), b.natAbs < 2 ^ k → k + 7 * r.length ≤ 90000 → 1 ≤ k → (∀ c ∈ r, c.natAbs < 2 ^ m) → acc.length + r.length ≤ 1000 →
    ∃ b' s5', forL (gN 5) (bSeq (sMut 4 appP (e2 mulP (eVo 5) (eVo 3))) (bSeq (sAug 3 mulP (eVo 0)) bNil)) (r.map PV.int) [.val (.int p), .val x, .val y, .val (.int b), .own (acc.map PV.int), s5] = .next [.val (.int p), .val x, .val y, .val (.int b'), .own ((acc ++ scl p b r).map PV.int), s5']
  | [], acc, b, k, s5, _, _, _, _, _ => ⟨b, s5, by rw [List.map_nil, forL_nil, scl, List.append_nil]⟩
  | c :: r, acc, b, k, s5, hb, hk, k1, h, hl => by
    rw [List.length_cons] at hk hl
    have hb' : (b * p).natAbs < 2 ^ (k + 7) := by
      rw [Int.natAbs_mul, Nat.pow_add]
      exact Nat.mul_lt_mul'' hb (by omega)
    obtain ⟨b', s5', ih⟩ := scl_loop hp x y m hm r (acc ++ [c * b]) (b * p) (k + 7) (.val (.int c)) hb' (by omega) (by omega) (fun z hz => h z (List.mem_cons_of_mem _ hz)) (by simp; omega)
    refine ⟨b', s5', ?_⟩
    have e : acc ++ scl p b (c :: r) = acc ++ [c * b] ++ scl p (b * p) r := by rw [scl]; simp
    rw [e, ← ih, List.map_cons, forL_cons, gN_eq, onR_some]
    have m1 : mulP (.int c) (.int b) = .ok (.int (c * b)) := mulP_ii (okMul_of (m := m + 1) (Nat.lt_of_lt_of_le (h c List.mem_cons_self) (Nat.pow_le_pow_right (by omega) (by omega))) hb (by omega) (by omega) (by omega))
    have m2 : mulP (.int b) (.int p) = .ok (.int (b * p)) := mulP_ii (okMul_of (n := 7) hb (by omega) (by omega) (by omega) (by omega))
    have ap : appP (acc.map PV.int) (.int (c * b)) = .ok ((acc ++ [c * b]).map PV.int) := by
      rw [appP_ok (by rw [List.length_map]; omega)]; simp
    simp only [List.set_cons_succ, List.set_cons_zero, bSeq_eq, sMut_eq, getOwn0, getOwnS, onOwn_some, e2_eq, eVos, eVo0, bind1, m1, st_ok, ap, own_ok, then_next]
    rw [sAug_at (x := .int b) (y := .int p) (z := .int (b * p)) rfl (by simp only [eVo0]) m2, then_next]
    simp only [List.set_cons_succ, List.set_cons_zero, bNil_eq, fo_next]
theorem f_one_on {p d : Int} {cs : List Int} {m : Nat} (hp : 2 ≤ p) (hp2 : p < 127) (hd : d.natAbs < 127) (h : NzL cs) (hl : cs.length ≤ 9) (hb : ∀ c ∈ cs, c.natAbs < 2 ^ m) (hm : m ≤ 400000) : F_one_on [.int p, .lst (cs.map PV.int), .int d] = .ok (.tup [.int (lfN p (on1 p cs d)), .lst ((lfQ p (on1 p cs d)).map PV.int)]) := by
  have l1 : 1 ≤ cs.length := by
    cases cs with
    | nil => exact absurd rfl h.ne
    | cons _ _ => simp
  have S := f_shifted hd l1 hl hb (by omega)
  have sb := shf_bd (d := d) (by omega) (cs.length - 1) m cs 9 hl hb
  have k9 : 7 * 9 * (cs.length - 1) ≤ 504 := by omega
  obtain ⟨b', s5', i⟩ := scl_loop (p := p) (by omega) (.lst (cs.map PV.int)) (.int d) (m + 504) (by omega) (shf d (cs.length - 1) cs) [] 1 1 .un (by decide) (by rw [shf_len]; omega) (by omega) (fun c hc => Nat.lt_of_lt_of_le (sb c hc) (Nat.pow_le_pow_right (by omega) (by omega))) (by rw [shf_len]; simp; omega)
  rw [List.nil_append] at i
  have nz := on1_nz hp h d
  have bb := on1_bd (p := p) (d := d) (by omega) hd hl hb
  have lt := lfN_lt hp nz bb
  have L := f_lifted (p := p) (cs := on1 p cs d) hp (by omega) nz (by rw [on1_len]; omega) (by omega)
  refine (runF_eq (n := 6) (u := D_one_on)).trans ?_
  show (D_one_on [.val (.int p), .val (.lst (cs.map PV.int)), .val (.int d), .un, .un, .un]).res = _
  unfold D_one_on
  refine stp (.int 1) (by rw [eC_eq]) ?_
  simp only [List.set_cons_succ, List.set_cons_zero]
  refine stpN (ρ' := [.val (.int p), .val (.lst (cs.map PV.int)), .val (.int d), .val (.int 1), .own [], .un]) (by
    simp only [sSetO_eq, eD_eq, aNil_eq, bind1, lstP0, st_ok, asL_l, own_ok, List.set_cons_succ, List.set_cons_zero]) ?_
  refine stpFor ((shf d (cs.length - 1) cs).map PV.int) _ (by simp only [iS_eq, eD_eq, aCons_eq, aNil_eq, eVs, eV0, bind1, S, asS_l]) i ?_
  rw [sFrz_eq]
  show (bSeq (sRet (eD F_lifted (aCons (eV 0) (aCons (eV 4) aNil)))) bNil [.val (.int p), .val (.lst (cs.map PV.int)), .val (.int d), .val (.int b'), .val (.lst ((on1 p cs d).map PV.int)), s5']).res = _
  simp only [bSeq_eq, sRet_eq, eD_eq, aCons_eq, aNil_eq, eVs, eV0, bind1, L, st_ok, then_ret, res_ret]
theorem seen_loop {p : Int} (hp : 2 ≤ p) (hp2 : p < 127) (x y : PV) : ∀ (ds : List Int) (t : Nat × List Int) (m : Nat) (s5 s6 : Slot), (∀ d ∈ ds, d.natAbs < 127) → NzL t.2 → t.2.length ≤ 9 → (∀ c ∈ t.2, c.natAbs < 2 ^ m) → m + 600 * ds.length ≤ 400000 →
    ∃ s5' s6', forL (gN 5) (bSeq (sTo (gT (gsCons (gN 6) (gsCons (gN 4) gsNil))) (eD F_one_on (aCons (eV 0) (aCons (eV 4) (aCons (eV 5) aNil))))) (bSeq (sAug 3 (intP (fun _ _ => true) fun a b => .int (a + b)) (eVo 6)) bNil)) (ds.map PV.int) [.val (.int p), .val x, .val y, .val (.int t.1), .val (.lst (t.2.map PV.int)), s5, s6] = .next [.val (.int p), .val x, .val y, .val (.int (seeL p t ds).1), .val (.lst ((seeL p t ds).2.map PV.int)), s5', s6']
  | [], t, m, s5, s6, _, _, _, _, _ => ⟨s5, s6, by rw [List.map_nil, forL_nil, seeL]⟩
  | d :: ds, t, m, s5, s6, hd, hn, hl, hb, hm => by
    rw [List.length_cons] at hm
    have d1 := hd d List.mem_cons_self
    have nz := on1_nz hp hn d
    have S := f_one_on hp hp2 d1 hn hl hb (by omega)
    obtain ⟨s5', s6', ih⟩ := seen_loop hp hp2 x y ds (t.1 + lfN p (on1 p t.2 d), lfQ p (on1 p t.2 d)) (m + 600) (.val (.int d)) (.val (.int (lfN p (on1 p t.2 d)))) (fun z hz => hd z (List.mem_cons_of_mem _ hz)) (lfQ_nz hp nz) (by rw [lfQ_len, on1_len]; exact hl) (lfQ_bd (on1_bd (by omega) d1 hl hb)) (by omega)
    refine ⟨s5', s6', ?_⟩
    rw [seeL, ← ih, List.map_cons, forL_cons, gN_eq, onR_some]
    have g : gT (gsCons (gN 6) (gsCons (gN 4) gsNil)) (.tup [.int (lfN p (on1 p t.2 d)), .lst ((lfQ p (on1 p t.2 d)).map PV.int)]) [.val (.int p), .val x, .val y, .val (.int t.1), .val (.lst (t.2.map PV.int)), .val (.int d), s6] = some [.val (.int p), .val x, .val y, .val (.int t.1), .val (.lst ((lfQ p (on1 p t.2 d)).map PV.int)), .val (.int d), .val (.int (lfN p (on1 p t.2 d)))] := rfl
    simp only [List.set_cons_succ, List.set_cons_zero, bSeq_eq, sTo_eq, eD_eq, aCons_eq, aNil_eq, eVs, eV0, bind1, S, st_ok, g, onR_some, then_next]
    rw [sAug_at (x := .int t.1) (y := .int (lfN p (on1 p t.2 d))) (z := .int (t.1 + lfN p (on1 p t.2 d))) rfl (by simp only [eVos, eVo0]) iadd_ii, then_next]
    simp only [List.set_cons_succ, List.set_cons_zero, bNil_eq, fo_next]
    rw [Int.natCast_add]
theorem f_seen_fromX {p : Int} {cs ds : List Int} {m : Nat} {x : PV} (hx : asS x = .ok (cs.map PV.int)) (hx2 : listP [x] = .ok (.lst (cs.map PV.int))) (hp : 2 ≤ p) (hp2 : p < 127) (h : NzL cs) (hl : cs.length ≤ 9) (hb : ∀ c ∈ cs, c.natAbs < 2 ^ m) (hd : ∀ d ∈ ds, d.natAbs < 127) (hm : m + 600 * ds.length ≤ 400000) :
    F_seen_from [.int p, x, .tup (ds.map PV.int)] = .ok (.tup [.int (see p cs ds).1, .lst ((see p cs ds).2.map PV.int)]) := by
  have lt := lfN_lt hp h hb
  have L := f_liftedX (p := p) hx hx2 hp (by omega) h (by omega) (by omega)
  obtain ⟨s5', s6', i⟩ := seen_loop hp hp2 x (.tup (ds.map PV.int)) ds (lfN p cs, lfQ p cs) m .un .un hd (lfQ_nz hp h) (by rw [lfQ_len]; exact hl) (lfQ_bd hb) hm
  refine (runF_eq (n := 7) (u := D_seen_from)).trans ?_
  show (D_seen_from [.val (.int p), .val x, .val (.tup (ds.map PV.int)), .un, .un, .un, .un]).res = _
  unfold D_seen_from
  refine stpN (ρ' := [.val (.int p), .val x, .val (.tup (ds.map PV.int)), .val (.int (lfN p cs)), .val (.lst ((lfQ p cs).map PV.int)), .un, .un]) (by
    simp only [sTo_eq, eD_eq, aCons_eq, aNil_eq, eVs, eV0, bind1, L, st_ok]
    rfl) ?_
  refine stpFor (ds.map PV.int) _ (by simp only [iS_eq, eVs, eV0, bind1, asS_t]) i ?_
  simp only [bSeq_eq, sRet_eq, eD_eq, aCons_eq, aNil_eq, eVs, eV0, bind1, tupP2, st_ok, then_ret, res_ret]
  rfl
theorem f_seen_from {p : Int} {cs ds : List Int} {m : Nat} (hp : 2 ≤ p) (hp2 : p < 127) (h : NzL cs) (hl : cs.length ≤ 9) (hb : ∀ c ∈ cs, c.natAbs < 2 ^ m) (hd : ∀ d ∈ ds, d.natAbs < 127) (hm : m + 600 * ds.length ≤ 400000) :
    F_seen_from [.int p, .lst (cs.map PV.int), .tup (ds.map PV.int)] = .ok (.tup [.int (see p cs ds).1, .lst ((see p cs ds).2.map PV.int)]) := f_seen_fromX asS_l listP_l hp hp2 h hl hb hd hm
end PM
set_option Elab.async false
set_option linter.all false
set_option maxRecDepth 100000
set_option autoImplicit false
set_option exponentiation.threshold 20000
namespace PM
open PySem PySem.Spec L2 PL
open PyProof.Rows hiding St
theorem foN {b : Out} {ρ : Rho} {k : Rho → Out} (h : b = .next ρ) : Out.fo b k = k ρ := by rw [h, fo_next]
theorem ev_bd {m k : Nat} {x : Int} (hx : x.natAbs < 2 ^ k) : ∀ cs : List Int, (∀ c ∈ cs, c.natAbs < 2 ^ m) → (ev cs x).natAbs < 2 ^ (m + (k + 1) * cs.length)
  | [], _ => by rw [ev]; exact Nat.pow_pos (by omega)
  | c :: r, h => by
    have ih := ev_bd hx r fun z hz => h z (List.mem_cons_of_mem _ hz)
    have hc := h c List.mem_cons_self
    have t := mul_bound hx ih
    rw [ev, List.length_cons, show m + (k + 1) * (r.length + 1) = (k + (m + (k + 1) * r.length)) + 1 by rw [Nat.mul_succ]; omega, Nat.pow_succ]
    have l : (2 : Nat) ^ m ≤ 2 ^ (k + (m + (k + 1) * r.length)) := Nat.pow_le_pow_right (by omega) (by omega)
    have := Int.natAbs_add_le c (x * ev r x)
    omega
theorem hor_loop {x : Int} (j : Nat) (a b : PV) (hj : [a, b][j]? = some (.int x)) {m k : Nat} (hx : x.natAbs < 2 ^ k) (hk : 1 ≤ k) (hm : 1 ≤ m) : ∀ (l done : List Int) (s3 : Slot), (∀ c ∈ l, c.natAbs < 2 ^ m) → (∀ c ∈ done, c.natAbs < 2 ^ m) → m + (k + 1) * (l.length + done.length) + k ≤ 90000000 →
    ∃ s3', forL (gN 3) (bSeq (sSet 2 (e2 addP (e2 mulP (eVo 2) (eVo j)) (eVo 3))) bNil) (l.map PV.int) [.val a, .val b, .val (.int (ev done x)), s3] = .next [.val a, .val b, .val (.int (ev (l.reverse ++ done) x)), s3']
  | [], done, s3, _, _, _ => ⟨s3, by rw [List.map_nil, forL_nil]; rfl⟩
  | c :: l, done, s3, h1, h2, hz => by
    rw [List.length_cons] at hz
    obtain ⟨s3', ih⟩ := hor_loop j a b hj hx hk hm l (c :: done) (.val (.int c)) (fun z hz => h1 z (List.mem_cons_of_mem _ hz)) (fun z hz => by
      rcases List.mem_cons.mp hz with rfl | hz
      · exact h1 _ List.mem_cons_self
      · exact h2 z hz) (by rw [List.length_cons, show l.length + (done.length + 1) = l.length + 1 + done.length by omega]; exact hz)
    refine ⟨s3', ?_⟩
    have e : (c :: l).reverse ++ done = l.reverse ++ (c :: done) := by simp
    have bd := ev_bd hx done h2
    have le : (k + 1) * done.length ≤ (k + 1) * (l.length + 1 + done.length) := Nat.mul_le_mul_left _ (by omega)
    have mu : mulP (.int (ev done x)) (.int x) = .ok (.int (ev done x * x)) := mulP_ii (okMul_of bd hx (by omega) (by omega) (by omega))
    have ej : eVo j [.val a, .val b, .val (.int (ev done x)), .val (.int c)] = .ok (.int x) := by
      match j, hj with
      | 0, hj => cases hj; rfl
      | 1, hj => cases hj; rfl
      | j + 2, hj => simp at hj
    have v : ev done x * x + c = ev (c :: done) x := by rw [ev]; grind
    rw [e, ← ih, List.map_cons, forL_cons, gN_eq, onR_some]
    simp only [List.set_cons_succ, List.set_cons_zero, bSeq_eq, sSet_eq, e2_eq, ej, eVos, eVo0, bind1, mu, addP_ii, st_ok, then_next, bNil_eq, fo_next, v]
theorem f_whole_worth {cs : List Int} {x : Int} {m k : Nat} (hx : x.natAbs < 2 ^ k) (hb : ∀ c ∈ cs, c.natAbs < 2 ^ m) (hk : 1 ≤ k) (hm : 1 ≤ m) (hz : m + (k + 1) * cs.length + k ≤ 90000000) : F_whole_worth [.lst (cs.map PV.int), .int x] = .ok (.int (ev cs x)) := by
  obtain ⟨s3, i⟩ := hor_loop 1 (.lst (cs.map PV.int)) (.int x) rfl hx hk hm cs.reverse [] .un (fun c hc => hb c (List.mem_reverse.mp hc)) (fun _ z => nomatch z) (by simpa using hz)
  rw [List.reverse_reverse, List.append_nil, List.map_reverse] at i
  refine (runF_eq (n := 4) (u := D_whole_worth)).trans ?_
  show (D_whole_worth [.val (.lst (cs.map PV.int)), .val (.int x), .un, .un]).res = _
  unfold D_whole_worth
  refine stp (.int 0) (by rw [eC_eq]) ?_
  simp only [List.set_cons_succ, List.set_cons_zero]
  refine stpFor (cs.map PV.int).reverse _ (by simp only [iRv_eq, eV0, bind1, asS_l]) i ?_
  simp only [bSeq_eq, sRet_eq, eVs, eV0, st_ok, then_ret, res_ret]
/-- so many times a factor -/
theorem mul_loopG {i j a : Nat} {y : Int} (ij : i ≠ j) (aj : a ≠ j) (ai : a ≠ i) (hy : y.natAbs < 2 ^ 7) : ∀ (items : List PV) (ρ : Rho) (x : Int) (m : Nat), ρ[i]? = some (.val (.int x)) → ρ[j]? = some (.val (.int y)) → a < ρ.length → x.natAbs < 2 ^ m → 1 ≤ m → m + 7 * items.length ≤ 90000000 →
    ∃ s, forL (gN a) (bSeq (sSet i (e2 mulP (eVo i) (eVo j))) bNil) items ρ = .next ((ρ.set i (.val (.int (x * y ^ items.length)))).set a s)
  | [], ρ, x, m, hi, hj, ha, hx, h1, hm => ⟨ρ[a], by
    rw [forL_nil, List.length_nil, Int.pow_zero, Int.mul_one, set_self hi]
    rw [set_self (List.getElem?_eq_getElem ha)]⟩
  | p :: l, ρ, x, m, hi, hj, ha, hx, h1, hm => by
    rw [List.length_cons] at hm
    have il : i < ρ.length := (List.getElem?_eq_some_iff.mp hi).1
    obtain ⟨s, ih⟩ := mul_loopG ij aj ai hy l ((ρ.set a (.val p)).set i (.val (.int (x * y)))) (x * y) (m + 7) (List.getElem?_set_self (by rw [List.length_set]; exact il)) (by rw [List.getElem?_set_ne ij, List.getElem?_set_ne aj]; exact hj) (by rw [List.length_set, List.length_set]; exact ha) (mul_bound hx hy) (by omega) (by omega)
    refine ⟨s, ?_⟩
    have mu : mulP (.int x) (.int y) = .ok (.int (x * y)) := mulP_ii (okMul_of hx hy (by omega) (by omega) (by omega))
    have g1 : (ρ.set a (.val p))[i]? = some (.val (.int x)) := by rw [List.getElem?_set_ne ai]; exact hi
    have g2 : (ρ.set a (.val p))[j]? = some (.val (.int y)) := by rw [List.getElem?_set_ne aj]; exact hj
    rw [forL_cons, gN_eq, onR_some]
    simp only [bSeq_eq, sSet_eq, e2_eq, eVo_of g1, eVo_of g2, bind1, mu, st_ok, then_next, bNil_eq, fo_next]
    rw [ih, List.set_set, List.set_comm _ _ ai, List.set_set, List.length_cons, Int.pow_succ, Int.mul_assoc, Int.mul_comm y]
theorem last_at0 {l : List Int} (h : l ≠ []) : l.getLast? = some (at0 l (l.length - 1)) := by
  have : 0 < l.length := List.length_pos_iff.mpr h
  unfold at0
  rw [List.getLast?_eq_getElem?, List.getD_eq_getElem?_getD, List.getElem?_eq_getElem (by omega)]
  rfl
theorem NzL.at {l : List Int} (h : NzL l) : at0 l (l.length - 1) ≠ 0 := by
  obtain ⟨x, e, n⟩ := h
  rw [last_at0 (fun z => by rw [z] at e; cases e)] at e
  cases e; exact n
theorem NzL.poly {cs : List Int} (h : NzL cs) (h2 : 2 ≤ cs.length) (h9 : cs.length ≤ 9) : PolyI cs := ⟨h2, h9, fun z => by obtain ⟨x, e, n⟩ := h; rw [e] at z; exact n (Option.some.inj z)⟩
theorem PolyI.nz {cs : List Int} (h : PolyI cs) : NzL cs := by
  have ne : cs ≠ [] := fun z => by have := h.1; rw [z] at this; simp at this
  exact ⟨_, last_at0 ne, fun z => h.2.2 (by rw [last_at0 ne, z])⟩
end PM
namespace PM
open PySem PySem.Spec L2 PL
open PyProof.Rows hiding St
theorem cut_last {α : Type} (l : List α) (y : α) : cutG (l ++ [y]) none (some (-1)) = l := by
  have e : HT.sIx (l ++ [y]).length (l ++ [y]).length (some (-1)) = l.length := by
    unfold HT.sIx
    simp
    omega
  unfold cutG
  rw [e]
  have e0 : HT.sIx (l ++ [y]).length 0 none = 0 := rfl
  rw [e0, List.drop_zero, Nat.sub_zero]
  simp
end PM
namespace PM
open PySem PySem.Spec L2 PL
open PyProof.Rows hiding St
end PM
set_option Elab.async false
set_option linter.all false
set_option maxRecDepth 100000
set_option autoImplicit false
namespace PM
open PySem PySem.Spec L2 PL
open PyProof.Rows hiding St
noncomputable def D_grown (G : List PV → R PV) : Rho → Out := (bSeq (sSetO 5 (eD lstP aNil)) (bSeq (sFor (iR rng1 (aCons (eVo 0) aNil)) (gN 6) (bSeq (sSet 7 (e2 addP (eVo 1) (eD tupP (aCons (eV 6) aNil)))) (bSeq (sSet 8 (eD F_word_of (aCons (eV 0) (aCons (eV 3) (aCons (eV 6) aNil))))) (bSeq (sIf (tB1 (e2 eqP (eVo 8) (eC (.str "none")))) (bSeq (sMut 5 appP (eD tupP (aCons (eV 7) (aCons (eC (.str "none")) (aCons (eV 4) aNil))))) bNil) (bSeq (sIf (tB1 (e2 eqP (eVo 8) (eC (.str "one")))) (bSeq (sMut 5 appP (eD tupP (aCons (eV 7) (aCons (eC (.str "one")) (aCons (e2 subP (eVo 4) (eD lenP (aCons (eVo 1) aNil))) aNil))))) bNil) (bSeq (sTo (gT (gsCons (gN 9) (gsCons (gN 10) gsNil))) (eD F_one_on (aCons (eV 0) (aCons (eV 3) (aCons (eV 6) aNil))))) (bSeq (sIf (tB1 (e2 eqP (eD lenP (aCons (eVo 7) aNil)) (eVo 2))) (bSeq (sMut 5 appP (eD tupP (aCons (eV 7) (aCons (eC (.str "open")) (aCons (e2 addP (eVo 4) (eVo 9)) aNil))))) bNil) (bSeq (sMut 5 extP (eD G (aCons (eV 0) (aCons (eV 7) (aCons (eV 2) (aCons (eV 10) (aCons (e2 addP (eVo 4) (eVo 9)) aNil))))))) bNil)) bNil))) bNil)) bNil)))) (bSeq (sRetO 5) bNil)))
noncomputable def F_grown : Nat → List PV → R PV
  | 0 => fun _ => .stuck
  | n + 1 => runF 11 (D_grown (F_grown n))
noncomputable def D_tree_of : Rho → Out := (bSeq (sIf (tNt (tB1 (eD F_is_prime (aCons (eV 0) aNil)))) (bSeq (sRaise "NoPrime") bNil) bNil) (bSeq (sDrop (eD F_want_poly (aCons (eV 1) aNil))) (bSeq (sIf (tOr' (tNt (tB1 (eD F_is_whole (aCons (eV 2) aNil)))) (tOr' (tB1 (e2 ltP (eVo 2) (eC (.int 1)))) (tB1 (e2 gtP (eVo 2) (eC (.int 12)))))) (bSeq (sRaise "NoDepth") bNil) bNil) (bSeq (sTo (gT (gsCons (gN 3) (gsCons (gN 4) gsNil))) (eD F_seen_from (aCons (eV 0) (aCons (eV 1) (aCons (eD tupP aNil) aNil))))) (bSeq (sRet (eD (F_grown 13) (aCons (eV 0) (aCons (eD tupP aNil) (aCons (eV 2) (aCons (eV 4) (aCons (eV 3) aNil))))))) bNil)))))
noncomputable def F_tree_of : List PV → R PV := runF 5 D_tree_of
end PM
set_option Elab.async false
set_option linter.all false
set_option maxRecDepth 100000
set_option autoImplicit false
set_option exponentiation.threshold 20000
namespace PM
open PySem PySem.Spec L2 PL
open PyProof.Rows hiding St
theorem slope_lcM (m : Nat) (hm : m ≤ 1000000) (x : PV) : ∀ (l : List Int) (n : Nat), n + l.length ≤ 1000 → (∀ a ∈ l, a.natAbs < 2 ^ m) →
    lcGo (gT (gsCons (gN 1) (gsCons (gN 2) gsNil))) cYes (e2 mulP (eVo 1) (eVo 2)) [.val x, .un, .un] (enumL n (l.map PV.int)) = .ok ((slp n l).map PV.int)
  | [], n, _, _ => by rw [List.map_nil, enumL]; rfl
  | a :: r, n, hn, hb => by
    rw [List.length_cons] at hn
    have ih := slope_lcM m hm x r (n + 1) (by omega) (fun q hq => hb q (List.mem_cons_of_mem _ hq))
    have mu : mulP (.int (n : Int)) (.int a) = .ok (.int (n * a)) := mulP_ii (okMul_of (m := 100) (n := m + 1) (by omega) (Nat.lt_of_lt_of_le (hb a List.mem_cons_self) (Nat.pow_le_pow_right (by omega) (by omega))) (by omega) (by omega) (by omega))
    have g : gT (gsCons (gN 1) (gsCons (gN 2) gsNil)) (.tup [.int (n : Nat), .int a]) [.val x, .un, .un] = some [.val x, .val (.int n), .val (.int a)] := rfl
    rw [List.map_cons, enumL, lcGo, g]
    dsimp only [cYes]
    rw [show e2 mulP (eVo 1) (eVo 2) [.val x, .val (.int n), .val (.int a)] = .ok (.int (n * a)) by simp only [e2_eq, eVos, eVo0, bind1, mu]]
    dsimp only
    rw [ih, slp, List.map_cons]
def slo (as : List Int) : List Int := (slp 0 as).drop 1
theorem f_slope_ofM {as : List Int} {m : Nat} (hm : m ≤ 1000000) (h : PolyI as) (hb : ∀ a ∈ as, a.natAbs < 2 ^ m) : F_slope_of [.lst (as.map PV.int)] = .ok (.lst ((slo as).map PV.int)) := by
  refine (runF_eq (n := 3) (u := D_slope_of)).trans ?_
  show (D_slope_of [.val (.lst (as.map PV.int)), .un, .un]).res = _
  have L := eLc_ok (vs := [1, 2]) (it := iEn (eV 0)) (ρ := [.val (.lst (as.map PV.int)), .un, .un]) (items := enumL 0 (as.map PV.int)) rfl (by simp [iEn]) (by rw [enum_len]; have := h.2.1; omega) (slope_lcM m hm (.lst (as.map PV.int)) as 0 (by have := h.2.1; omega) hb)
  have w := f_want_poly_ok (f_is_poly_ok h)
  have s1 : slL (.lst ((slp 0 as).map PV.int)) (some 1) none = .ok (.lst ((slo as).map PV.int)) := by
    show R.ok (PV.lst (cutG ((slp 0 as).map PV.int) (some 1) none)) = _
    rw [cut_drop _ _ (by omega), ← List.map_drop]; rfl
  unfold D_slope_of
  refine stpN (ρ' := [.val (.lst (as.map PV.int)), .un, .un]) (by simp [w]) ?_
  simp only [bSeq_eq, sRet_eq, eSl_eq, oSome_eq, oNone_eq, eC_eq, L, bind1, asI_eq, s1, st_ok, then_ret, res_ret]
theorem slp_bd {m : Nat} : ∀ (l : List Int) (n : Nat), n + l.length ≤ 128 → (∀ a ∈ l, a.natAbs < 2 ^ m) → ∀ a ∈ slp n l, a.natAbs < 2 ^ (m + 7)
  | [], _, _, _ => by simp [slp]
  | c :: r, n, hn, h => by
    intro a ha
    rw [List.length_cons] at hn
    rw [slp] at ha
    rcases List.mem_cons.mp ha with rfl | ha
    · rw [Nat.add_comm m 7]; exact mul_bound (by omega) (h c List.mem_cons_self)
    · exact slp_bd r (n + 1) (by omega) (fun z hz => h z (List.mem_cons_of_mem _ hz)) a ha
theorem slo_bd {m : Nat} {l : List Int} (hl : l.length ≤ 9) (h : ∀ a ∈ l, a.natAbs < 2 ^ m) : ∀ a ∈ slo l, a.natAbs < 2 ^ (m + 7) := fun a ha => slp_bd l 0 (by omega) h a (List.mem_of_mem_drop ha)
theorem slo_len (l : List Int) : (slo l).length = l.length - 1 := by unfold slo; rw [List.length_drop, slp_len]
def wNone : Str := "none"
def wOne : Str := "one"
def wOn : Str := "on"
def wOpen : Str := "open"
theorem eq_ss {a b : Str} (ha : PyData.strOk a = true) (hb : PyData.strOk b = true) : eqP (.str a) (.str b) = .ok (.bl (a == b)) := by
  rw [eqP_ok (by rw [okD_str]; exact ha) (by rw [okD_str]; exact hb), eqV_ss]
theorem ne_ss {a b : Str} (ha : PyData.strOk a = true) (hb : PyData.strOk b = true) : neP (.str a) (.str b) = .ok (.bl (!(a == b))) := by
  rw [neP_ok (by rw [okD_str]; exact ha) (by rw [okD_str]; exact hb), eqV_ss]
theorem ok_none : PyData.strOk wNone = true := by decide +kernel
theorem ok_one : PyData.strOk wOne = true := by decide +kernel
theorem ok_on : PyData.strOk wOn = true := by decide +kernel
theorem ok_open : PyData.strOk wOpen = true := by decide +kernel
/-- what a figure is: 0 none, 1 one, 2 on -/
def wrd (p : Int) (qs : List Int) (d : Int) : Str := if ev qs d % p ≠ 0 then wNone else if ev (slo qs) d % p ≠ 0 then wOne else wOn
theorem f_word_of {p d : Int} {qs : List Int} {m : Nat} (hp : 2 ≤ p ∧ p < 127) (hd : d.natAbs < 127) (h : PolyI qs) (hb : ∀ c ∈ qs, c.natAbs < 2 ^ m) (hm : m ≤ 400000) : F_word_of [.int p, .lst (qs.map PV.int), .int d] = .ok (.str (wrd p qs d)) := by
  have b1 : ∀ c ∈ qs, c.natAbs < 2 ^ (m + 1) := fun c hc => Nat.lt_of_lt_of_le (hb c hc) (Nat.pow_le_pow_right (by omega) (by omega))
  have w1 := f_whole_worth (cs := qs) (x := d) (m := m + 1) (k := 7) (by omega) b1 (by omega) (by omega) (by have := h.2.1; omega)
  have s1 := f_slope_ofM (m := m + 1) (by omega) h b1
  have w2 := f_whole_worth (cs := slo qs) (x := d) (m := m + 1 + 7) (k := 7) (by omega) (slo_bd h.2.1 b1) (by omega) (by omega) (by rw [slo_len]; have := h.2.1; omega)
  have m1 := modP_pos (a := ev qs d) (b := p) (by omega)
  have m2 := modP_pos (a := ev (slo qs) d) (b := p) (by omega)
  refine (runF_eq (n := 3) (u := D_word_of)).trans ?_
  show (D_word_of [.val (.int p), .val (.lst (qs.map PV.int)), .val (.int d)]).res = _
  unfold D_word_of wrd
  by_cases z1 : ev qs d % p = 0
  · rw [if_neg (fun q => q z1)]
    refine skp (by simp only [tB1_eq, e2_eq, eD_eq, aCons_eq, aNil_eq, eVs, eV0, eVo0, eC_eq, bind1, w1, m1, neP_ii, z1, asB_eq]; rfl) ?_
    by_cases z2 : ev (slo qs) d % p = 0
    · rw [if_neg (fun q => q z2)]
      refine skp (by simp only [tB1_eq, e2_eq, eD_eq, aCons_eq, aNil_eq, eVs, eV0, eVo0, eC_eq, bind1, s1, w2, m2, neP_ii, z2, asB_eq]; rfl) ?_
      simp only [bSeq_eq, sRet_eq, eC_eq, st_ok, then_ret, res_ret]; rfl
    · have z2' : (ev (slo qs) d % p == 0) = false := by rw [beq_eq_false_iff_ne]; exact z2
      rw [if_pos z2]
      refine ifT (by simp only [tB1_eq, e2_eq, eD_eq, aCons_eq, aNil_eq, eVs, eV0, eVo0, eC_eq, bind1, s1, w2, m2, neP_ii, z2', asB_eq]; rfl) ?_
      simp only [bSeq_eq, sRet_eq, eC_eq, st_ok, then_ret, res_ret]; rfl
  · have z1' : (ev qs d % p == 0) = false := by rw [beq_eq_false_iff_ne]; exact z1
    rw [if_pos z1]
    refine ifT (by simp only [tB1_eq, e2_eq, eD_eq, aCons_eq, aNil_eq, eVs, eV0, eVo0, eC_eq, bind1, w1, m1, neP_ii, z1', asB_eq]; rfl) ?_
    simp only [bSeq_eq, sRet_eq, eC_eq, st_ok, then_ret, res_ret]; rfl
structure Row where
  stem : List Int
  word : Str
  num : Int
def rowV (r : Row) : PV := .tup [.tup (r.stem.map PV.int), .str r.word, .int r.num]
def rowsD (sub : Int → List Row) : Int → Nat → List Row
  | _, 0 => []
  | a, k + 1 => sub a ++ rowsD sub (a + 1) k
noncomputable def nxt (p : Int) (t : Nat × List Int) (d : Int) : Nat × List Int := (t.1 + lfN p (on1 p t.2 d), lfQ p (on1 p t.2 d))
/-- the rows of one figure; m: how many figures may come behind it -/
noncomputable def rowsAt (p : Int) (m : Nat) (deep : List Int → Nat × List Int → List Row) (stem : List Int) (t : Nat × List Int) (d : Int) : List Row :=
  if ev t.2 d % p ≠ 0 then [⟨stem ++ [d], wNone, t.1⟩] else if ev (slo t.2) d % p ≠ 0 then [⟨stem ++ [d], wOne, t.1 - stem.length⟩] else if m = 0 then [⟨stem ++ [d], wOpen, (nxt p t d).1⟩] else deep (stem ++ [d]) (nxt p t d)
noncomputable def gro (p : Int) : Nat → List Int → Nat × List Int → List Row
  | 0, _, _ => []
  | m + 1, stem, t => rowsD (rowsAt p m (gro p m) stem t) 0 p.toNat
theorem rowsD_len {sub : Int → List Row} : ∀ (k : Nat) (a d : Int), a ≤ d → d < a + k → (sub d).length ≤ (rowsD sub a k).length
  | 0, a, d, h1, h2 => by omega
  | k + 1, a, d, h1, h2 => by
    rw [rowsD, List.length_append]
    by_cases e : d = a
    · subst e; omega
    · have := rowsD_len (sub := sub) k (a + 1) d (by omega) (by omega)
      omega
/-- what stands at a stem of the tree -/
structure At (m : Nat) (t : Nat × List Int) : Prop where
  nz : NzL t.2
  l2 : 2 ≤ t.2.length
  l9 : t.2.length ≤ 9
  bd : ∀ c ∈ t.2, c.natAbs < 2 ^ m
theorem At.next {p d : Int} {m : Nat} {t : Nat × List Int} (h : At m t) (hp : 2 ≤ p ∧ p < 127) (hd : d.natAbs < 127) : At (m + 600) (nxt p t d) :=
  ⟨lfQ_nz (by omega) (on1_nz (by omega) h.nz d), by show 2 ≤ (lfQ p _).length; rw [lfQ_len, on1_len]; exact h.l2, by show (lfQ p _).length ≤ 9; rw [lfQ_len, on1_len]; exact h.l9, lfQ_bd (on1_bd (by omega) hd h.l9 h.bd)⟩
theorem grow_loop {p : Int} (hp : 2 ≤ p ∧ p ≤ 97) (M : Nat) (hM : M ≤ 300000) (G : List PV → R PV) (m : Nat) (stem : List Int) (t : Nat × List Int) (hA : At M t) (hs : stem.length ≤ 1000) (dep : Int) (hdep : dep = stem.length + m + 1)
    (hG : ∀ d : Int, 0 ≤ d → d < p → m ≠ 0 → ev t.2 d % p = 0 → ev (slo t.2) d % p = 0 → G [.int p, .tup ((stem ++ [d]).map PV.int), .int dep, .lst ((nxt p t d).2.map PV.int), .int (nxt p t d).1] = .ok (.lst ((gro p m (stem ++ [d]) (nxt p t d)).map rowV))) :
    ∀ (k : Nat) (a : Int) (acc : List Row) (s6 s7 s8 s9 s10 : Slot), 0 ≤ a → a + k ≤ p → acc.length + (rowsD (rowsAt p m (gro p m) stem t) a k).length ≤ 900000 →
    ∃ (s6' s7' s8' s9' s10' : Slot), forL (gN 6) (bSeq (sSet 7 (e2 addP (eVo 1) (eD tupP (aCons (eV 6) aNil)))) (bSeq (sSet 8 (eD F_word_of (aCons (eV 0) (aCons (eV 3) (aCons (eV 6) aNil))))) (bSeq (sIf (tB1 (e2 eqP (eVo 8) (eC (.str "none")))) (bSeq (sMut 5 appP (eD tupP (aCons (eV 7) (aCons (eC (.str "none")) (aCons (eV 4) aNil))))) bNil) (bSeq (sIf (tB1 (e2 eqP (eVo 8) (eC (.str "one")))) (bSeq (sMut 5 appP (eD tupP (aCons (eV 7) (aCons (eC (.str "one")) (aCons (e2 subP (eVo 4) (eD lenP (aCons (eVo 1) aNil))) aNil))))) bNil) (bSeq (sTo (gT (gsCons (gN 9) (gsCons (gN 10) gsNil))) (eD F_one_on (aCons (eV 0) (aCons (eV 3) (aCons (eV 6) aNil))))) (bSeq (sIf (tB1 (e2 eqP (eD lenP (aCons (eVo 7) aNil)) (eVo 2))) (bSeq (sMut 5 appP (eD tupP (aCons (eV 7) (aCons (eC (.str "open")) (aCons (e2 addP (eVo 4) (eVo 9)) aNil))))) bNil) (bSeq (sMut 5 extP (eD G (aCons (eV 0) (aCons (eV 7) (aCons (eV 2) (aCons (eV 10) (aCons (e2 addP (eVo 4) (eVo 9)) aNil))))))) bNil)) bNil))) bNil)) bNil))) (rngL a k)
      [.val (.int p), .val (.tup (stem.map PV.int)), .val (.int dep), .val (.lst (t.2.map PV.int)), .val (.int t.1), .own (acc.map rowV), s6, s7, s8, s9, s10] = .next [.val (.int p), .val (.tup (stem.map PV.int)), .val (.int dep), .val (.lst (t.2.map PV.int)), .val (.int t.1), .own ((acc ++ rowsD (rowsAt p m (gro p m) stem t) a k).map rowV), s6', s7', s8', s9', s10']
  | 0, a, acc, s6, s7, s8, s9, s10, _, _, _ => ⟨s6, s7, s8, s9, s10, by rw [show rngL a 0 = [] from rfl, forL_nil, rowsD, List.append_nil]⟩
  | k + 1, a, acc, s6, s7, s8, s9, s10, ha, hk, hl => by
    rw [rowsD, List.length_append] at hl
    have hap : a < p := by omega
    have an : a.natAbs < 127 := by omega
    have W := f_word_of (p := p) (d := a) (by omega) an (hA.nz.poly hA.l2 hA.l9) hA.bd (by omega)
    have O := f_one_on (p := p) (d := a) (by omega) (by omega) an hA.nz hA.l9 hA.bd (by omega)
    have ap : addP (.tup (stem.map PV.int)) (.tup [.int a]) = .ok (.tup ((stem ++ [a]).map PV.int)) := by rw [addT_ok (by rw [List.length_map, List.length_singleton]; omega), List.map_append]; rfl
    obtain ⟨St, hSt⟩ : ∃ St, St = PV.tup (stem.map PV.int) := ⟨_, rfl⟩
    obtain ⟨Lg, hLg⟩ : ∃ Lg, Lg = PV.tup ((stem ++ [a]).map PV.int) := ⟨_, rfl⟩
    obtain ⟨T, hT⟩ : ∃ T, T = PV.lst (t.2.map PV.int) := ⟨_, rfl⟩
    have le1 : lenP [St] = .ok (.int stem.length) := by rw [hSt]; simp
    have le2 : lenP [Lg] = .ok (.int (stem.length + 1)) := by rw [hLg]; simp
    rw [← hSt, ← hLg] at ap
    rw [← hT] at W O
    -- one turn
    have turn : ∃ s8' s9' s10', (bSeq (sSet 7 (e2 addP (eVo 1) (eD tupP (aCons (eV 6) aNil)))) (bSeq (sSet 8 (eD F_word_of (aCons (eV 0) (aCons (eV 3) (aCons (eV 6) aNil))))) (bSeq (sIf (tB1 (e2 eqP (eVo 8) (eC (.str "none")))) (bSeq (sMut 5 appP (eD tupP (aCons (eV 7) (aCons (eC (.str "none")) (aCons (eV 4) aNil))))) bNil) (bSeq (sIf (tB1 (e2 eqP (eVo 8) (eC (.str "one")))) (bSeq (sMut 5 appP (eD tupP (aCons (eV 7) (aCons (eC (.str "one")) (aCons (e2 subP (eVo 4) (eD lenP (aCons (eVo 1) aNil))) aNil))))) bNil) (bSeq (sTo (gT (gsCons (gN 9) (gsCons (gN 10) gsNil))) (eD F_one_on (aCons (eV 0) (aCons (eV 3) (aCons (eV 6) aNil))))) (bSeq (sIf (tB1 (e2 eqP (eD lenP (aCons (eVo 7) aNil)) (eVo 2))) (bSeq (sMut 5 appP (eD tupP (aCons (eV 7) (aCons (eC (.str "open")) (aCons (e2 addP (eVo 4) (eVo 9)) aNil))))) bNil) (bSeq (sMut 5 extP (eD G (aCons (eV 0) (aCons (eV 7) (aCons (eV 2) (aCons (eV 10) (aCons (e2 addP (eVo 4) (eVo 9)) aNil))))))) bNil)) bNil))) bNil)) bNil)))
        [.val (.int p), .val St, .val (.int dep), .val T, .val (.int t.1), .own (acc.map rowV), .val (.int a), s7, s8, s9, s10] = .next [.val (.int p), .val St, .val (.int dep), .val T, .val (.int t.1), .own ((acc ++ rowsAt p m (gro p m) stem t a).map rowV), .val (.int a), .val Lg, s8', s9', s10'] := by
      have app : ∀ r : Row, rowsAt p m (gro p m) stem t a = [r] → appP (acc.map rowV) (rowV r) = .ok ((acc ++ [r]).map rowV) := fun r e => by
        rw [e, List.length_singleton] at hl
        rw [appP_ok (by rw [List.length_map]; omega), List.map_append]; rfl
      have head : ∀ {k' : Rho → Out} {o : Out}, k' [.val (.int p), .val St, .val (.int dep), .val T, .val (.int t.1), .own (acc.map rowV), .val (.int a), .val Lg, .val (.str (wrd p t.2 a)), s9, s10] = o → bSeq (sSet 7 (e2 addP (eVo 1) (eD tupP (aCons (eV 6) aNil)))) (bSeq (sSet 8 (eD F_word_of (aCons (eV 0) (aCons (eV 3) (aCons (eV 6) aNil))))) k') [.val (.int p), .val St, .val (.int dep), .val T, .val (.int t.1), .own (acc.map rowV), .val (.int a), s7, s8, s9, s10] = o := fun {k' o} h => by
        refine sqS Lg (by simp only [e2_eq, eD_eq, aCons_eq, aNil_eq, eVos, eVo0, eVs, eV0, bind1, tupP1, ap]) ?_
        refine sqS (.str (wrd p t.2 a)) (by simp only [List.set_cons_succ, List.set_cons_zero, eD_eq, aCons_eq, aNil_eq, eVs, eV0, bind1, W]) ?_
        simp only [List.set_cons_succ, List.set_cons_zero]
        exact h
      by_cases z1 : ev t.2 a % p = 0
      · by_cases z2 : ev (slo t.2) a % p = 0
        · have hw : wrd p t.2 a = wOn := by unfold wrd; rw [if_neg (fun q => q z1), if_neg (fun q => q z2)]
          rw [hw] at head
          have q1 : eqP (.str wOn) (.str "none") = .ok (.bl false) := (eq_ss ok_on ok_none).trans rfl
          have q2 : eqP (.str wOn) (.str "one") = .ok (.bl false) := (eq_ss ok_on ok_one).trans rfl
          have gt : ∀ c v : PV, gT (gsCons (gN 9) (gsCons (gN 10) gsNil)) (.tup [c, v]) [.val (.int p), .val St, .val (.int dep), .val T, .val (.int t.1), .own (acc.map rowV), .val (.int a), .val Lg, .val (.str wOn), s9, s10] = some [.val (.int p), .val St, .val (.int dep), .val T, .val (.int t.1), .own (acc.map rowV), .val (.int a), .val Lg, .val (.str wOn), .val c, .val v] := fun _ _ => rfl
          have n1 : ((t.1 : Int) + (lfN p (on1 p t.2 a) : Nat)) = ((nxt p t a).1 : Nat) := by show _ = ((t.1 + lfN p (on1 p t.2 a) : Nat) : Int); omega
          by_cases hm : m = 0
          · have e : rowsAt p m (gro p m) stem t a = [⟨stem ++ [a], wOpen, (nxt p t a).1⟩] := by unfold rowsAt; rw [if_neg (fun q => q z1), if_neg (fun q => q z2), if_pos hm]
            have ap1 := app _ e
            have dp : (((stem.length : Int) + 1) == dep) = true := by rw [beq_iff_eq]; omega
            rw [e]
            refine ⟨.val (.str wOn), .val (.int (lfN p (on1 p t.2 a))), .val (.lst ((lfQ p (on1 p t.2 a)).map PV.int)), head ?_⟩
            have rv : tupP [Lg, .str "open", .int ((t.1 : Int) + (lfN p (on1 p t.2 a) : Nat))] = .ok (rowV ⟨stem ++ [a], wOpen, (nxt p t a).1⟩) := by rw [tupP3, n1, hLg]; rfl
            simp only [bSeq_eq, sIf_eq, tB1_eq, e2_eq, eVos, eVo0, eC_eq, bind1, q1, q2, asB_eq, stB_ok, if_neg Bool.false_ne_true, sTo_eq, eD_eq, aCons_eq, aNil_eq, eVs, eV0, O, st_ok, gt, onR_some, then_next, le2, eqP_ii, dp, if_true, sMut_eq, getOwn0, getOwnS, onOwn_some, addP_ii, rv, ap1, own_ok, List.set_cons_succ, List.set_cons_zero, bNil_eq]
          · have e : rowsAt p m (gro p m) stem t a = gro p m (stem ++ [a]) (nxt p t a) := by unfold rowsAt; rw [if_neg (fun q => q z1), if_neg (fun q => q z2), if_neg hm]
            have g := hG a ha hap hm z1 z2
            rw [e] at hl
            have ex : extP (acc.map rowV) (.lst ((gro p m (stem ++ [a]) (nxt p t a)).map rowV)) = .ok ((acc ++ gro p m (stem ++ [a]) (nxt p t a)).map rowV) := by
              unfold extP
              dsimp only
              rw [if_pos (size_ok (by rw [List.length_map, List.length_map]; omega)), List.map_append]
            have dp : (((stem.length : Int) + 1) == dep) = false := by rw [beq_eq_false_iff_ne]; omega
            have g' : G [.int p, Lg, .int dep, .lst ((lfQ p (on1 p t.2 a)).map PV.int), .int ((t.1 : Int) + (lfN p (on1 p t.2 a) : Nat))] = .ok (.lst ((gro p m (stem ++ [a]) (nxt p t a)).map rowV)) := by rw [n1, hLg]; exact g
            rw [e]
            refine ⟨.val (.str wOn), .val (.int (lfN p (on1 p t.2 a))), .val (.lst ((lfQ p (on1 p t.2 a)).map PV.int)), head ?_⟩
            simp only [bSeq_eq, sIf_eq, tB1_eq, e2_eq, eVos, eVo0, eC_eq, bind1, q1, q2, asB_eq, stB_ok, if_neg Bool.false_ne_true, sTo_eq, eD_eq, aCons_eq, aNil_eq, eVs, eV0, O, st_ok, gt, onR_some, then_next, le2, eqP_ii, dp, sMut_eq, getOwn0, getOwnS, onOwn_some, addP_ii, g', ex, own_ok, List.set_cons_succ, List.set_cons_zero, bNil_eq]
        · have hw : wrd p t.2 a = wOne := by unfold wrd; rw [if_neg (fun q => q z1), if_pos z2]
          rw [hw] at head
          have q1 : eqP (.str wOne) (.str "none") = .ok (.bl false) := (eq_ss ok_one ok_none).trans rfl
          have q2 : eqP (.str wOne) (.str "one") = .ok (.bl true) := (eq_ss ok_one ok_one).trans rfl
          have e : rowsAt p m (gro p m) stem t a = [⟨stem ++ [a], wOne, t.1 - stem.length⟩] := by unfold rowsAt; rw [if_neg (fun q => q z1), if_pos z2]
          have ap1 := app _ e
          have rv : tupP [Lg, .str "one", .int ((t.1 : Int) - stem.length)] = .ok (rowV ⟨stem ++ [a], wOne, t.1 - stem.length⟩) := by rw [tupP3, hLg]; rfl
          rw [e]
          refine ⟨.val (.str wOne), s9, s10, head ?_⟩
          simp only [bSeq_eq, sIf_eq, tB1_eq, e2_eq, eVos, eVo0, eC_eq, bind1, q1, q2, asB_eq, stB_ok, if_neg Bool.false_ne_true, if_true, sMut_eq, getOwn0, getOwnS, onOwn_some, eD_eq, aCons_eq, aNil_eq, eVs, eV0, le1, subP_ii, rv, ap1, st_ok, own_ok, List.set_cons_succ, List.set_cons_zero, then_next, bNil_eq]
      · have hw : wrd p t.2 a = wNone := by unfold wrd; rw [if_pos z1]
        rw [hw] at head
        have q1 : eqP (.str wNone) (.str "none") = .ok (.bl true) := (eq_ss ok_none ok_none).trans rfl
        have e : rowsAt p m (gro p m) stem t a = [⟨stem ++ [a], wNone, t.1⟩] := by unfold rowsAt; rw [if_pos z1]
        have ap1 := app _ e
        have rv : tupP [Lg, .str "none", .int (t.1 : Int)] = .ok (rowV ⟨stem ++ [a], wNone, t.1⟩) := by rw [tupP3, hLg]; rfl
        rw [e]
        refine ⟨.val (.str wNone), s9, s10, head ?_⟩
        simp only [bSeq_eq, sIf_eq, tB1_eq, e2_eq, eVos, eVo0, eC_eq, bind1, q1, asB_eq, stB_ok, if_true, sMut_eq, getOwn0, getOwnS, onOwn_some, eD_eq, aCons_eq, aNil_eq, eVs, eV0, rv, ap1, st_ok, own_ok, List.set_cons_succ, List.set_cons_zero, then_next, bNil_eq]
    obtain ⟨s8', s9', s10', turn⟩ := turn
    obtain ⟨u6, u7, u8, u9, u10, ih⟩ := grow_loop hp M hM G m stem t hA hs dep hdep hG k (a + 1) (acc ++ rowsAt p m (gro p m) stem t a) (.val (.int a)) (.val Lg) s8' s9' s10' (by omega) (by omega) (by rw [List.length_append]; omega)
    refine ⟨u6, u7, u8, u9, u10, ?_⟩
    rw [rowsD, ← List.append_assoc]
    rw [← hSt, ← hT] at ih ⊢
    rw [← ih, rngL_step, forL_cons, gN_eq, onR_some]
    simp only [List.set_cons_succ, List.set_cons_zero]
    exact foN turn
theorem f_grown {p : Int} (hp : 2 ≤ p ∧ p ≤ 97) : ∀ (m : Nat) (n : Nat) (M : Nat) (stem : List Int) (t : Nat × List Int) (dep : Int), m < n → At M t → M + 600 * m ≤ 300000 → stem.length + m ≤ 1000 → dep = stem.length + m + 1 → (gro p (m + 1) stem t).length ≤ 900000 →
    F_grown n [.int p, .tup (stem.map PV.int), .int dep, .lst (t.2.map PV.int), .int t.1] = .ok (.lst ((gro p (m + 1) stem t).map rowV))
  | m, 0, _, _, _, _, h, _, _, _, _, _ => by omega
  | m, n + 1, M, stem, t, dep, hn, hA, hM, hs, hdep, hl => by
    obtain ⟨s6, s7, s8, s9, s10, i⟩ := grow_loop hp M (by omega) (F_grown n) m stem t hA (by omega) dep hdep (fun d d0 d1 hm z1 z2 => by
      obtain ⟨m', rfl⟩ : ∃ m', m = m' + 1 := ⟨m - 1, by omega⟩
      have ln := rowsD_len (sub := rowsAt p (m' + 1) (gro p (m' + 1)) stem t) p.toNat 0 d d0 (by omega)
      have e : rowsAt p (m' + 1) (gro p (m' + 1)) stem t d = gro p (m' + 1) (stem ++ [d]) (nxt p t d) := by unfold rowsAt; rw [if_neg (fun q => q z1), if_neg (fun q => q z2), if_neg (by omega)]
      rw [e] at ln
      have hl' : (rowsD (rowsAt p (m' + 1) (gro p (m' + 1)) stem t) 0 p.toNat).length ≤ 900000 := hl
      exact f_grown hp m' n (M + 600) (stem ++ [d]) (nxt p t d) dep (by omega) (hA.next (by omega) (by omega)) (by omega) (by rw [List.length_append, List.length_singleton]; omega) (by rw [List.length_append, List.length_singleton]; omega) (by omega)) p.toNat 0 [] .un .un .un .un .un (by omega) (by omega) (by
      have hl' : (rowsD (rowsAt p m (gro p m) stem t) 0 p.toNat).length ≤ 900000 := hl
      rw [List.length_nil, Nat.zero_add]; exact hl')
    rw [List.nil_append, List.map_nil] at i
    have rp : rng1 [.int p] = .ok (rngL 0 p.toNat) := rng1_sm (by omega) (by omega)
    refine (runF_eq (n := 11) (u := D_grown (F_grown n))).trans ?_
    show (D_grown (F_grown n) [.val (.int p), .val (.tup (stem.map PV.int)), .val (.int dep), .val (.lst (t.2.map PV.int)), .val (.int t.1), .un, .un, .un, .un, .un, .un]).res = _
    unfold D_grown
    refine stpN (ρ' := [.val (.int p), .val (.tup (stem.map PV.int)), .val (.int dep), .val (.lst (t.2.map PV.int)), .val (.int t.1), .own [], .un, .un, .un, .un, .un]) (by
      simp only [sSetO_eq, eD_eq, aNil_eq, bind1, lstP0, st_ok, asL_l, own_ok, List.set_cons_succ, List.set_cons_zero]) ?_
    refine stpFor (rngL 0 p.toNat) _ (by simp only [iR_eq, aCons_eq, aNil_eq, eVo0, bind1, rp]) i ?_
    simp only [bSeq_eq, sRetO_eq, getOwn0, getOwnS, onOwn_some, then_ret, res_ret]
    rfl
/-- the tree -/
noncomputable def tree (p : Int) (cs : List Int) (d : Nat) : List Row := gro p d [] (lfN p cs, lfQ p cs)
theorem f_tree_of {p : Int} {cs : List Int} {m : Nat} {d : Nat} (hp : p ∈ primesL) (h : NzL cs) (h2 : 2 ≤ cs.length) (h9 : cs.length ≤ 9) (hb : ∀ c ∈ cs, c.natAbs < 2 ^ m) (hm : m ≤ 100000) (d1 : 1 ≤ d) (d12 : d ≤ 12) (hl : (tree p cs d).length ≤ 900000) :
    F_tree_of [.int p, .lst (cs.map PV.int), .int d] = .ok (.lst ((tree p cs d).map rowV)) := by
  have pb := primesL_le p hp
  have hp' : isP (.int p) = true := by simp [isP, hp]
  have w := f_want_poly_ok (f_is_poly_ok (h.poly h2 h9))
  have S := f_seen_from (p := p) (ds := []) (by omega) (by omega) h h9 hb (fun _ z => nomatch z) (by simp; omega)
  have hA : At m (lfN p cs, lfQ p cs) := ⟨lfQ_nz (by omega) h, by show 2 ≤ (lfQ p cs).length; rw [lfQ_len]; exact h2, by show (lfQ p cs).length ≤ 9; rw [lfQ_len]; exact h9, lfQ_bd hb⟩
  obtain ⟨d', rfl⟩ : ∃ d', d = d' + 1 := ⟨d - 1, by omega⟩
  have g := f_grown pb d' 13 m [] (lfN p cs, lfQ p cs) ((d' + 1 : Nat) : Int) (by omega) hA (by omega) (by simp; omega) (by simp) hl
  have S' : F_seen_from [.int p, .lst (cs.map PV.int), .tup []] = .ok (.tup [.int (lfN p cs), .lst ((lfQ p cs).map PV.int)]) := S
  have l1 : decide (((d' + 1 : Nat) : Int) < 1) = false := decide_eq_false (by omega)
  have l2 : decide (12 < ((d' + 1 : Nat) : Int)) = false := decide_eq_false (by omega)
  obtain ⟨C, hC⟩ : ∃ C, C = PV.lst (cs.map PV.int) := ⟨_, rfl⟩
  rw [← hC] at w S' ⊢
  refine (runF_eq (n := 5) (u := D_tree_of)).trans ?_
  show (D_tree_of [.val (.int p), .val C, .val (.int ((d' + 1 : Nat) : Int)), .un, .un]).res = _
  unfold D_tree_of
  refine skp (by simp only [tNt_eq, tB1_eq, eD_eq, aCons_eq, aNil_eq, eV0, bind1, f_is_prime, hp', asB_eq, Bool.not_true]) ?_
  refine stpN (ρ' := [.val (.int p), .val C, .val (.int ((d' + 1 : Nat) : Int)), .un, .un]) (by simp only [sDrop_eq, eD_eq, aCons_eq, aNil_eq, eVs, eV0, bind1, w, st_ok]) ?_
  refine skp (by simp only [tOr_eq, tNt_eq, tB1_eq, e2_eq, eD_eq, aCons_eq, aNil_eq, eVs, eV0, eVos, eVo0, eC_eq, bind1, f_is_whole, isW_int, ltP_ii, gtP_ii, l1, l2, asB_eq, Bool.not_true, if_neg Bool.false_ne_true]) ?_
  refine stpN (ρ' := [.val (.int p), .val C, .val (.int ((d' + 1 : Nat) : Int)), .val (.int (lfN p cs)), .val (.lst ((lfQ p cs).map PV.int))]) (by
    simp only [sTo_eq, eD_eq, aCons_eq, aNil_eq, eVs, eV0, bind1, tupP0, S', st_ok]; rfl) ?_
  have g' : F_grown 13 [.int p, .tup [], .int ((d' + 1 : Nat) : Int), .lst ((lfQ p cs).map PV.int), .int (lfN p cs)] = .ok (.lst ((tree p cs (d' + 1)).map rowV)) := g
  simp only [bSeq_eq, sRet_eq, eD_eq, aCons_eq, aNil_eq, eVs, eV0, bind1, tupP0, g', st_ok, then_ret, res_ret]
end PM
set_option Elab.async false
set_option linter.all false
set_option maxRecDepth 100000
set_option autoImplicit false
namespace PM
open PL (leastI leastI_mem leastI_le)
theorem ev_inj : ∀ (a b : List Int) (N : Int), a.length = b.length → (∀ z, N ≤ z → ev a z = ev b z) → a = b
  | [], [], _, _, _ => rfl
  | [], _ :: _, _, h, _ => by simp at h
  | _ :: _, [], _, h, _ => by simp at h
  | c :: r, c' :: r', N, hl, h => by
    have e : ∀ z, N ≤ z → (c - c') + z * (ev r z - ev r' z) = 0 := fun z hz => by
      have := h z hz
      rw [ev, ev] at this
      grind
    have c0 : c - c' = 0 := by
      obtain ⟨z, hz⟩ : ∃ z, z = max N ((c - c').natAbs + 1 : Nat) := ⟨_, rfl⟩
      have z1 : N ≤ z := by omega
      have z2 : ((c - c').natAbs : Int) < z := by omega
      have := e z z1
      have d : z ∣ (c - c') := ⟨-(ev r z - ev r' z), by grind⟩
      exact Int.eq_zero_of_dvd_of_natAbs_lt_natAbs d (by omega)
    have ih := ev_inj r r' (max N 1) (by simpa using hl) fun z hz => by
      have := e z (by omega)
      rw [c0, Int.zero_add] at this
      rcases Int.mul_eq_zero.mp this with q | q
      · omega
      · omega
    rw [ih, show c = c' by omega]
/-- w + (u + x) G -/
def lin (u : Int) : Int → List Int → List Int
  | w, [] => [w]
  | w, g :: gs => (u * g + w) :: lin u g gs
theorem lin_len (u : Int) : ∀ (w : Int) (gs : List Int), (lin u w gs).length = gs.length + 1
  | _, [] => rfl
  | w, g :: gs => by rw [lin, List.length_cons, lin_len, List.length_cons]
theorem ev_lin (u z : Int) : ∀ (w : Int) (gs : List Int), ev (lin u w gs) z = w + (u + z) * ev gs z
  | w, [] => by simp [lin, ev]
  | w, g :: gs => by rw [lin, ev, ev_lin u z g gs, ev]; grind
theorem shf_split {d : Int} {cs h : List Int} {v : Int} (e : syn d cs = v :: h) : shf d cs.length cs = v :: shf d h.length h := by
  have l := syn_len d cs
  rw [e, List.length_cons] at l
  rw [← l, shf, e]
theorem ev_split {d x : Int} {cs h : List Int} {v : Int} (e : syn d cs = v :: h) : ev cs x = v + (x - d) * ev h x := by
  have := ev_syn d x cs
  rw [e] at this
  exact this
theorem shf_lin {d e : Int} {cs h : List Int} {v : Int} (q : syn d cs = v :: h) : shf e cs.length cs = lin (e - d) v (shf e h.length h) := by
  have l := syn_len d cs
  rw [q, List.length_cons] at l
  refine ev_inj _ _ 0 (by rw [shf_len, lin_len, shf_len, l]) fun z _ => ?_
  rw [ev_shf e z _ cs (by omega), ev_lin, ev_shf e z _ h (by omega), ev_split q]
  grind
theorem is_lin {d : Int} {cs h : List Int} {v : Int} (q : syn d cs = v :: h) : cs = lin (-d) v h := by
  have l := syn_len d cs
  rw [q, List.length_cons] at l
  refine ev_inj _ _ 0 (by rw [lin_len, l]) fun z _ => ?_
  rw [ev_lin, ev_split q]
  grind
theorem at0_cons0 (c : Int) (l : List Int) : at0 (c :: l) 0 = c := rfl
theorem at0_cons (c : Int) (l : List Int) (i : Nat) : at0 (c :: l) (i + 1) = at0 l i := by
  unfold at0
  rw [List.getD_eq_getElem?_getD, List.getElem?_cons_succ, ← List.getD_eq_getElem?_getD]
theorem at0_nil (i : Nat) : at0 [] i = 0 := at0_out (Nat.zero_le _)
/-- the shifted polynomial begins with multiples -/
def Mu (p : Int) (cs : List Int) (d : Int) (m : Nat) : Prop := ∀ i, i < m → at0 (shf d cs.length cs) i % p = 0
theorem lin_mu {p u : Int} (hp : p ∈ primesL) (hu : u % p ≠ 0) : ∀ (gs : List Int) (w : Int) (m : Nat), w % p = 0 → (∀ i, i < m → at0 (lin u w gs) i % p = 0) → ∀ i, i < m → at0 gs i % p = 0
  | [], _, _, _, _, i, _ => by rw [at0_nil]; simp
  | g :: gs, w, 0, _, _, i, hi => by omega
  | g :: gs, w, m + 1, hw, h, i, hi => by
    have h0 := h 0 (by omega)
    rw [lin, at0_cons0] at h0
    have hg : g % p = 0 := by
      refine Classical.byContradiction fun z => prime_mulI hp hu z ?_
      have := Int.sub_emod (u * g + w) w p
      rw [h0, hw] at this
      simpa using this
    cases i with
    | zero => rw [at0_cons0]; exact hg
    | succ i =>
      rw [at0_cons]
      refine lin_mu hp hu gs g m hg (fun j hj => ?_) i (by omega)
      have := h (j + 1) (by omega)
      rw [lin, at0_cons] at this
      exact this
theorem lin_all {p u : Int} : ∀ (gs : List Int) (w : Int), w % p = 0 → (∀ i, at0 gs i % p = 0) → ∀ i, at0 (lin u w gs) i % p = 0
  | [], w, hw, _, 0 => hw
  | [], w, hw, _, i + 1 => by rw [lin, at0_cons, at0_nil]; simp
  | g :: gs, w, hw, h, 0 => by
    have hg := h 0
    rw [at0_cons0] at hg
    rw [lin, at0_cons0, Int.add_emod, Int.mul_emod, hg, hw]; simp
  | g :: gs, w, hw, h, i + 1 => by
    have hg := h 0
    rw [at0_cons0] at hg
    rw [lin, at0_cons]
    exact lin_all gs g hg (fun j => by have := h (j + 1); rw [at0_cons] at this; exact this) i
theorem lin_at (u : Int) : ∀ (gs : List Int) (w : Int) (i : Nat), at0 (lin u w gs) (i + 1) = u * at0 gs (i + 1) + at0 gs i
  | [], w, i => by rw [lin, at0_cons, at0_nil, at0_nil]; simp
  | g :: gs, w, 0 => by
    rw [lin, at0_cons, at0_cons, at0_cons0]
    cases gs with
    | nil => rw [lin, at0_cons0, at0_nil]; simp
    | cons g' gs => rw [lin, at0_cons0, at0_cons0]
  | g :: gs, w, i + 1 => by rw [lin, at0_cons, lin_at u gs g i, at0_cons, at0_cons]
def Dle (p : Int) (cs : List Int) (D : Nat) : Prop := ∀ i, D < i → at0 cs i % p = 0
def No (p : Int) (cs : List Int) : Prop := ∃ i, at0 cs i % p ≠ 0
theorem few_roots {p : Int} (hp : p ∈ primesL) : ∀ (T : Nat) (E : List (Int × Nat)) (cs : List Int) (D : Nat), (E.map fun e => e.2).sum ≤ T → E.Pairwise (fun a b => (b.1 - a.1) % p ≠ 0) → (∀ e ∈ E, Mu p cs e.1 e.2) → No p cs → Dle p cs D → (E.map fun e => e.2).sum ≤ D
  | T, [], cs, D, _, _, _, _, _ => Nat.zero_le _
  | T, (d, 0) :: E, cs, D, hT, hE, hM, hn, hD => by
    rw [List.map_cons, List.sum_cons] at hT ⊢
    have := few_roots hp T E cs D (by omega) (List.pairwise_cons.mp hE).2 (fun e he => hM e (List.mem_cons_of_mem _ he)) hn hD
    omega
  | 0, (d, m + 1) :: E, cs, D, hT, _, _, _, _ => by
    rw [List.map_cons, List.sum_cons] at hT
    have hT' : m + 1 + (E.map fun e => e.2).sum ≤ 0 := hT
    omega
  | T + 1, (d, m + 1) :: E, cs, D, hT, hE, hM, hn, hD => by
    rw [List.map_cons, List.sum_cons] at hT ⊢
    have hT' : m + 1 + (E.map fun e => e.2).sum ≤ T + 1 := hT
    show m + 1 + (E.map fun e => e.2).sum ≤ D
    obtain ⟨hE1, hE2⟩ := List.pairwise_cons.mp hE
    have M0 := hM (d, m + 1) List.mem_cons_self
    obtain ⟨v, h, q⟩ : ∃ v h, syn d cs = v :: h := by
      cases q : syn d cs with
      | nil =>
        have l := syn_len d cs
        rw [q] at l
        have : cs = [] := List.length_eq_zero_iff.mp l.symm
        subst this
        obtain ⟨i, hi⟩ := hn
        rw [at0_nil] at hi
        simp at hi
      | cons v h => exact ⟨v, h, rfl⟩
    have sp := shf_split q
    have v0 : v % p = 0 := by
      have := M0 0 (by show 0 < m + 1; omega)
      rw [show shf (d, m + 1).1 cs.length cs = v :: shf d h.length h from sp, at0_cons0] at this
      exact this
    have li := is_lin q
    have nh : No p h := by
      refine Classical.byContradiction fun z => ?_
      obtain ⟨i, hi⟩ := hn
      refine hi ?_
      rw [li]
      exact lin_all h v v0 (fun j => Classical.byContradiction fun y => z ⟨j, y⟩) i
    have dn : ∀ (j i : Nat), i + j = h.length → D ≤ i → at0 h i % p = 0 := by
      intro j
      induction j with
      | zero => intro i hi _; rw [at0_out (by omega)]; simp
      | succ j ih =>
        intro i hi hD'
        have a := ih (i + 1) (by omega) (by omega)
        have b := hD (i + 1) (by omega)
        rw [li, lin_at] at b
        have := Int.sub_emod (-d * at0 h (i + 1) + at0 h i) (-d * at0 h (i + 1)) p
        rw [b, Int.mul_emod (-d) (at0 h (i + 1)), a, Int.mul_zero, Int.zero_emod, Int.sub_self, Int.zero_emod] at this
        rw [show at0 h i = -d * at0 h (i + 1) + at0 h i - -d * at0 h (i + 1) by omega]
        exact this
    have all : ∀ i, D ≤ i → at0 h i % p = 0 := fun i hi => by
      rcases Nat.lt_or_ge i h.length with g | g
      · exact dn (h.length - i) i (by omega) hi
      · rw [at0_out g]; simp
    have D1 : 1 ≤ D := by
      refine Classical.byContradiction fun z => ?_
      obtain ⟨i, hi⟩ := nh
      exact hi (all i (by omega))
    have ih := few_roots hp T ((d, m) :: E) h (D - 1) (by rw [List.map_cons, List.sum_cons]; show m + _ ≤ T; omega) (List.pairwise_cons.mpr ⟨hE1, hE2⟩) (fun e he => by
      rcases List.mem_cons.mp he with rfl | he
      · intro i hi
        have := M0 (i + 1) (by show i + 1 < m + 1; exact Nat.succ_lt_succ hi)
        rw [show shf (d, m + 1).1 cs.length cs = v :: shf d h.length h from sp, at0_cons] at this
        exact this
      · have Me := hM e (List.mem_cons_of_mem _ he)
        intro i hi
        refine lin_mu hp (hE1 e he) (shf e.1 h.length h) v e.2 v0 (fun j hj => ?_) i hi
        have := Me j hj
        rw [shf_lin q] at this
        exact this) nh (fun i hi => all i (by omega))
    rw [List.map_cons, List.sum_cons] at ih
    have ih' : m + (E.map fun e => e.2).sum ≤ D - 1 := ih
    omega
/-- how often a figure is a root, but for multiples -/
def mt (p : Int) (cs : List Int) (d : Int) : Nat := ((shf d cs.length cs).takeWhile fun c => decide (c % p = 0)).length
theorem take_while_at {p : Int} : ∀ (l : List Int) (i : Nat), i < (l.takeWhile fun c => decide (c % p = 0)).length → at0 l i % p = 0
  | [], i, h => by simp at h
  | c :: l, i, h => by
    by_cases hc : c % p = 0
    · rw [List.takeWhile_cons_of_pos (by simpa using hc)] at h
      cases i with
      | zero => rw [at0_cons0]; exact hc
      | succ i => rw [at0_cons]; exact take_while_at l i (by simpa using h)
    · rw [List.takeWhile_cons_of_neg (by simpa using hc)] at h
      simp at h
theorem take_while_end {p : Int} : ∀ (l : List Int), (l.takeWhile fun c => decide (c % p = 0)).length < l.length → at0 l (l.takeWhile fun c => decide (c % p = 0)).length % p ≠ 0
  | [], h => by simp at h
  | c :: l, h => by
    by_cases hc : c % p = 0
    · rw [List.takeWhile_cons_of_pos (by simpa using hc)] at h ⊢
      rw [List.length_cons] at h ⊢
      rw [at0_cons]
      exact take_while_end l (by simpa using h)
    · rw [List.takeWhile_cons_of_neg (by simpa using hc), List.length_nil, at0_cons0]
      exact hc
theorem mt_mu (p : Int) (cs : List Int) (d : Int) : Mu p cs d (mt p cs d) := fun i hi => take_while_at _ i hi
theorem shf_more (d : Int) : ∀ (n : Nat) (cs : List Int), cs.length ≤ n + 1 → shf d (n + 1) cs = shf d n cs
  | 0, [], _ => rfl
  | 0, [c], _ => by simp [shf, syn]
  | 0, _ :: _ :: _, h => by simp at h
  | n + 1, cs, h => by
    have l := syn_len d cs
    rw [shf]
    conv => rhs; rw [shf]
    cases q : syn d cs with
    | nil => rfl
    | cons v r =>
      rw [q, List.length_cons] at l
      dsimp only
      rw [shf_more d n r (by omega)]
theorem shf_full {d : Int} {cs : List Int} (h : cs ≠ []) : shf d cs.length cs = shf d (cs.length - 1) cs := by
  have : 0 < cs.length := List.length_pos_iff.mpr h
  obtain ⟨n, hn⟩ : ∃ n, cs.length = n + 1 := ⟨cs.length - 1, by omega⟩
  rw [hn]
  exact shf_more d n cs (by omega)
theorem mt_pos {p d : Int} {cs : List Int} (hn : cs ≠ []) (h : ev cs d % p = 0) : 1 ≤ mt p cs d := by
  have e := ev_shf d 0 cs.length cs (by omega)
  rw [Int.add_zero] at e
  unfold mt
  cases q : shf d cs.length cs with
  | nil =>
    have l := shf_len d cs.length cs
    rw [q] at l
    exact absurd (List.length_eq_zero_iff.mp l.symm) hn
  | cons c r =>
    rw [q, ev, Int.zero_mul, Int.add_zero] at e
    rw [List.takeWhile_cons_of_pos (by rw [e]; simpa using h)]
    simp
theorem at0_scl (p : Int) : ∀ (cs : List Int) (b : Int) (i : Nat), at0 (scl p b cs) i = at0 cs i * (b * p ^ i)
  | [], b, i => by rw [scl, at0_nil]; simp
  | c :: r, b, 0 => by rw [scl, at0_cons0, at0_cons0]; simp
  | c :: r, b, i + 1 => by rw [scl, at0_cons, at0_cons, at0_scl p r (b * p) i, Int.pow_succ]; grind
theorem at0_map (f : Int → Int) (h0 : f 0 = 0) : ∀ (cs : List Int) (i : Nat), at0 (cs.map f) i = f (at0 cs i)
  | [], i => by rw [List.map_nil, at0_nil, h0]
  | c :: r, 0 => by rw [List.map_cons, at0_cons0, at0_cons0]
  | c :: r, i + 1 => by rw [List.map_cons, at0_cons, at0_cons, at0_map f h0 r i]
theorem mem_at0 {l : List Int} {c : Int} (h : c ∈ l) : ∃ i, i < l.length ∧ at0 l i = c := by
  obtain ⟨i, hi, e⟩ := List.mem_iff_getElem.mp h
  exact ⟨i, hi, by unfold at0; rw [List.getD_eq_getElem?_getD, List.getElem?_eq_getElem hi, Option.getD_some, e]⟩
/-- seen from a figure the degree is at most how often it is a root -/
theorem on_deg {p d : Int} {cs : List Int} (hp : 2 ≤ p) (h : NzL cs) : Dle p (lfQ p (on1 p cs d)) (mt p cs d) := by
  have n1 := on1_nz hp h d
  have e := lfQ_eq hp n1
  intro i hi
  have P : p ^ lfN p (on1 p cs d) ≠ 0 := Int.pow_ne_zero (by omega)
  have ea : ∀ i, at0 (on1 p cs d) i = p ^ lfN p (on1 p cs d) * at0 (lfQ p (on1 p cs d)) i := fun i => by
    conv => lhs; rw [e]
    exact at0_map (fun q => p ^ lfN p (on1 p cs d) * q) (Int.mul_zero _) _ i
  have eb : ∀ i, at0 (on1 p cs d) i = at0 (shf d cs.length cs) i * p ^ i := fun i => by
    rw [shf_full h.ne]
    unfold on1
    rw [at0_scl, Int.one_mul]
  rcases Nat.lt_or_ge (mt p cs d) (shf d cs.length cs).length with g | g
  · have u := take_while_end (p := p) (shf d cs.length cs) g
    have u' : at0 (shf d cs.length cs) (mt p cs d) % p ≠ 0 := u
    have L : lfN p (on1 p cs d) ≤ mt p cs d := by
      refine Classical.byContradiction fun z => u' ?_
      have a := ea (mt p cs d)
      rw [eb] at a
      obtain ⟨k, hk⟩ : ∃ k, lfN p (on1 p cs d) = mt p cs d + 1 + k := ⟨lfN p (on1 p cs d) - (mt p cs d + 1), by omega⟩
      rw [hk, Int.pow_add, Int.pow_add, Int.pow_one] at a
      have Pm : p ^ mt p cs d ≠ 0 := Int.pow_ne_zero (by omega)
      have : at0 (shf d cs.length cs) (mt p cs d) = p * (p ^ k * at0 (lfQ p (on1 p cs d)) (mt p cs d)) := Int.eq_of_mul_eq_mul_right Pm (by rw [a]; grind)
      rw [this]; exact Int.mul_emod_right _ _
    have a := ea i
    rw [eb] at a
    obtain ⟨k, hk⟩ : ∃ k, i = lfN p (on1 p cs d) + 1 + k := ⟨i - (lfN p (on1 p cs d) + 1), by omega⟩
    have : at0 (lfQ p (on1 p cs d)) i = p * (p ^ k * at0 (shf d cs.length cs) i) := by
      refine Int.eq_of_mul_eq_mul_left P ?_
      rw [← a]
      conv => lhs; rw [show p ^ i = p ^ lfN p (on1 p cs d) * p * p ^ k by rw [hk, Int.pow_add, Int.pow_add, Int.pow_one]]
      grind
    rw [this]; exact Int.mul_emod_right _ _
  · rw [at0_out]
    · simp
    · rw [lfQ_len, on1_len]
      rw [shf_len] at g
      omega
def digE (f : Int → Nat) : Int → Nat → List (Int × Nat)
  | _, 0 => []
  | a, k + 1 => (a, f a) :: digE f (a + 1) k
theorem digE_mem {f : Int → Nat} : ∀ {k : Nat} {a : Int} {e : Int × Nat}, e ∈ digE f a k → a ≤ e.1 ∧ e.1 < a + k ∧ e.2 = f e.1
  | 0, _, _, h => nomatch h
  | k + 1, a, e, h => by
    rw [digE] at h
    rcases List.mem_cons.mp h with rfl | h
    · exact ⟨Int.le_refl _, by show a < _; omega, rfl⟩
    · obtain ⟨h1, h2, h3⟩ := digE_mem h
      exact ⟨by omega, by omega, h3⟩
theorem digE_apart {f : Int → Nat} {p : Int} : ∀ {k : Nat} {a : Int}, 0 ≤ a → a + k ≤ p → (digE f a k).Pairwise (fun x y => (y.1 - x.1) % p ≠ 0)
  | 0, _, _, _ => .nil
  | k + 1, a, ha, hk => by
    rw [digE]
    refine List.pairwise_cons.mpr ⟨fun e he => ?_, digE_apart (by omega) (by omega)⟩
    obtain ⟨h1, h2, _⟩ := digE_mem he
    show (e.1 - a) % p ≠ 0
    rw [Int.emod_eq_of_lt (by omega) (by omega)]
    omega
theorem no_of {p : Int} {cs : List Int} (h : ∃ q ∈ cs, q % p ≠ 0) : No p cs := by
  obtain ⟨q, hq, n⟩ := h
  obtain ⟨i, _, e⟩ := mem_at0 hq
  exact ⟨i, by rw [e]; exact n⟩
theorem gro_few {p : Int} (hp : p ∈ primesL) : ∀ (m : Nat) (stem : List Int) (t : Nat × List Int) (D : Nat), NzL t.2 → No p t.2 → Dle p t.2 D → (gro p (m + 1) stem t).length ≤ p.toNat * (1 + m * D) := by
  have pb := primesL_le p hp
  have key : ∀ (m : Nat) (stem : List Int) (t : Nat × List Int), NzL t.2 → No p t.2 → (∀ d, ev t.2 d % p = 0 → m ≠ 0 → (gro p m (stem ++ [d]) (nxt p t d)).length ≤ p.toNat * (1 + (m - 1) * mt p t.2 d)) →
      ∀ (k : Nat) (a : Int), (rowsD (rowsAt p m (gro p m) stem t) a k).length ≤ k + p.toNat * m * ((digE (mt p t.2) a k).map fun e => e.2).sum := by
    intro m stem t hz hn hd k
    induction k with
    | zero => intro a; simp [rowsD, digE]
    | succ k ih =>
      intro a
      have ih' := ih (a + 1)
      rw [rowsD, List.length_append, digE, List.map_cons, List.sum_cons, Nat.mul_add]
      have one : (rowsAt p m (gro p m) stem t a).length ≤ 1 + p.toNat * m * mt p t.2 a := by
        unfold rowsAt
        by_cases z1 : ev t.2 a % p = 0
        · rw [if_neg (fun q => q z1)]
          by_cases z2 : ev (slo t.2) a % p = 0
          · rw [if_neg (fun q => q z2)]
            by_cases z3 : m = 0
            · rw [if_pos z3, List.length_singleton]; omega
            · rw [if_neg z3]
              have h := hd a z1 z3
              have m1 := mt_pos (p := p) hz.ne z1
              obtain ⟨m', rfl⟩ : ∃ m', m = m' + 1 := ⟨m - 1, by omega⟩
              rw [Nat.add_sub_cancel, Nat.mul_add, Nat.mul_one] at h
              have e : p.toNat * (m' + 1) * mt p t.2 a = p.toNat * (m' * mt p t.2 a) + p.toNat * mt p t.2 a := by rw [Nat.mul_assoc, Nat.succ_mul, Nat.mul_add]
              have : p.toNat * 1 ≤ p.toNat * mt p t.2 a := Nat.mul_le_mul_left _ m1
              omega
          · rw [if_pos z2, List.length_singleton]; omega
        · rw [if_pos z1, List.length_singleton]; omega
      show _ ≤ k + 1 + (p.toNat * m * mt p t.2 a + p.toNat * m * ((digE (mt p t.2) (a + 1) k).map fun e => e.2).sum)
      omega
  intro m
  induction m with
  | zero =>
    intro stem t D hz hn hD
    have := key 0 stem t hz hn (fun _ _ z => absurd rfl z) p.toNat 0
    rw [gro]
    simp only [Nat.mul_zero, Nat.zero_mul, Nat.add_zero, Nat.mul_one] at this ⊢
    exact this
  | succ m ih =>
    intro stem t D hz hn hD
    have K := key (m + 1) stem t hz hn (fun d hd _ => by
      have n1 := on1_nz (p := p) (by omega) hz d
      have := ih (stem ++ [d]) (nxt p t d) (mt p t.2 d) (lfQ_nz (by omega) n1) (no_of (lfQ_no (by omega) n1)) (on_deg (by omega) hz)
      rw [Nat.add_sub_cancel]
      exact this) p.toNat 0
    have F := few_roots hp _ (digE (mt p t.2) 0 p.toNat) t.2 D (Nat.le_refl _) (digE_apart (by omega) (by omega)) (fun e he => by rw [(digE_mem he).2.2]; exact mt_mu _ _ _) hn hD
    have G : p.toNat * (m + 1) * ((digE (mt p t.2) 0 p.toNat).map fun e => e.2).sum ≤ p.toNat * (m + 1) * D := Nat.mul_le_mul_left _ F
    rw [Nat.mul_add, Nat.mul_one, ← Nat.mul_assoc]
    show (rowsD (rowsAt p (m + 1) (gro p (m + 1)) stem t) 0 p.toNat).length ≤ _
    omega
theorem tree_few {p : Int} (hp : p ∈ primesL) {cs : List Int} (h : NzL cs) (h9 : cs.length ≤ 9) {d : Nat} (d12 : d ≤ 12) : (tree p cs d).length ≤ 900000 := by
  have pb := primesL_le p hp
  cases d with
  | zero => simp [tree, gro]
  | succ m =>
    have := gro_few hp m [] (lfN p cs, lfQ p cs) 8 (lfQ_nz (by omega) h) (no_of (lfQ_no (by omega) h)) (fun i hi => by rw [at0_out (by show (lfQ p cs).length ≤ i; rw [lfQ_len]; omega)]; simp)
    have a : p.toNat * (1 + m * 8) ≤ 97 * (1 + 11 * 8) := Nat.mul_le_mul (by omega) (by omega)
    exact Nat.le_trans this (by omega)
end PM
set_option Elab.async false
set_option linter.all false
set_option maxRecDepth 100000
set_option autoImplicit false
namespace PM
open PL (leastI leastI_mem leastI_le)
def Cg (p : Int) : List Int → List Int → Prop
  | [], [] => True
  | a :: as, b :: bs => p ∣ a - b ∧ Cg p as bs
  | _, _ => False
theorem Cg.refl (p : Int) : ∀ l : List Int, Cg p l l
  | [] => trivial
  | a :: l => ⟨by rw [Int.sub_self]; exact ⟨0, by simp⟩, Cg.refl p l⟩
theorem cg_ev {p x y : Int} (h : p ∣ x - y) : ∀ {a b : List Int}, Cg p a b → p ∣ ev a x - ev b y
  | [], [], _ => ⟨0, by simp [ev]⟩
  | [], _ :: _, h => h.elim
  | _ :: _, [], h => h.elim
  | c :: a, d :: b, ⟨h1, h2⟩ => by
    obtain ⟨k3, e3⟩ := cg_ev h h2
    obtain ⟨k1, e1⟩ := h
    obtain ⟨k2, e2⟩ := h1
    rw [ev, ev]
    exact ⟨k2 + x * k3 + k1 * ev b y, by
      have : c + x * ev a x - (d + y * ev b y) = (c - d) + x * (ev a x - ev b y) + (x - y) * ev b y := by grind
      rw [this, e1, e2, e3]; grind⟩
theorem cg_head {p : Int} : ∀ {a b : List Int}, Cg p a b → p ∣ a.headD 0 - b.headD 0
  | [], [], _ => ⟨0, by simp⟩
  | [], _ :: _, h => h.elim
  | _ :: _, [], h => h.elim
  | _ :: _, _ :: _, h => h.1
theorem cg_tail {p : Int} : ∀ {a b : List Int}, Cg p a b → Cg p a.tail b.tail
  | [], [], _ => trivial
  | [], _ :: _, h => h.elim
  | _ :: _, [], h => h.elim
  | _ :: _, _ :: _, h => h.2
theorem cg_syn {p u v : Int} (h : p ∣ u - v) : ∀ cs : List Int, Cg p (syn u cs) (syn v cs)
  | [] => trivial
  | c :: r => by
    have ih := cg_syn h r
    obtain ⟨k1, e1⟩ := h
    obtain ⟨k2, e2⟩ := cg_head ih
    refine ⟨⟨k1 * (syn u r).headD 0 + v * k2, ?_⟩, ih⟩
    have : c + u * (syn u r).headD 0 - (c + v * (syn v r).headD 0) = (u - v) * (syn u r).headD 0 + v * ((syn u r).headD 0 - (syn v r).headD 0) := by grind
    rw [this, e1, e2]; grind
/-- the derivative -/
def dv : List Int → Int → Int
  | [], _ => 0
  | _ :: r, x => ev r x + x * dv r x
theorem syn_head (x : Int) : ∀ cs : List Int, (syn x cs).headD 0 = ev cs x
  | [] => rfl
  | c :: r => by rw [syn, List.headD_cons, syn_head x r, ev]
theorem ev_syn_tail (x : Int) : ∀ cs : List Int, ev (syn x cs).tail x = dv cs x
  | [] => rfl
  | c :: r => by
    rw [syn, List.tail_cons, dv, ← ev_syn_tail x r, ← syn_head x r]
    cases syn x r with
    | nil => simp [ev]
    | cons a l => simp [ev]
theorem ev_slp (x : Int) : ∀ (r : List Int) (n : Nat), ev (slp n r) x = n * ev r x + x * dv r x
  | [], n => by simp [slp, ev, dv]
  | c :: r, n => by
    rw [slp, ev, ev_slp x r (n + 1), ev, dv]
    have : ((n + 1 : Nat) : Int) = n + 1 := by omega
    rw [this]; grind
theorem ev_slo (x : Int) : ∀ cs : List Int, ev (slo cs) x = dv cs x
  | [] => rfl
  | c :: r => by
    show ev (slp 1 r) x = _
    rw [ev_slp, dv]; simp
/-- two worths differ by the difference times what is the slope's worth, but for multiples -/
theorem ev_diff {p u v d : Int} (cs : List Int) (hu : p ∣ u - d) (hv : p ∣ v - d) : ∃ g, ev cs u - ev cs v = (u - v) * g ∧ p ∣ g - ev (slo cs) d := by
  refine ⟨ev (syn v cs).tail u, ?_, ?_⟩
  · rw [ev_syn v u cs, syn_head]; omega
  · rw [ev_slo, ← ev_syn_tail]
    exact cg_ev hu (cg_tail (cg_syn hv cs))
theorem unit_of_cong {p a b : Int} (h : p ∣ a - b) (hb : b % p ≠ 0) : a % p ≠ 0 := fun z => hb (by
  obtain ⟨k, e⟩ := h
  obtain ⟨m, e2⟩ := Int.dvd_of_emod_eq_zero z
  exact Int.emod_eq_zero_of_dvd ⟨m - k, by rw [Int.mul_sub, ← e, ← e2]; omega⟩)
theorem seeL_app (p : Int) : ∀ (a b : List Int) (t : Nat × List Int), seeL p t (a ++ b) = seeL p (seeL p t a) b
  | [], b, t => rfl
  | d :: a, b, t => by rw [List.cons_append, seeL, seeL_app p a b, seeL]
theorem see_on (p : Int) (cs s : List Int) (d : Int) : see p cs (s ++ [d]) = nxt p (see p cs s) d := by
  unfold see
  rw [seeL_app, seeL, seeL]; rfl
def On (p : Int) (qs : List Int) (d : Int) : Prop := ev qs d % p = 0 ∧ ev (slo qs) d % p = 0
/-- the way to a stem leads on -/
def Pth (p : Int) (cs : List Int) (s : List Int) : Prop := ∀ a e b, s = a ++ e :: b → (0 ≤ e ∧ e < p) ∧ On p (see p cs a).2 e
theorem Pth.nil {p : Int} {cs : List Int} : Pth p cs [] := fun a e b h => by
  have := congrArg List.length h
  simp at this
theorem Pth.on {p d : Int} {cs s : List Int} (h : Pth p cs s) (hd : 0 ≤ d ∧ d < p) (ho : On p (see p cs s).2 d) : Pth p cs (s ++ [d]) := fun a e b q => by
  rcases List.eq_nil_or_concat b with hb | ⟨b', x, hb⟩
  · subst hb
    have := List.append_inj' q rfl
    obtain ⟨h1, h2⟩ := this
    cases h2
    subst h1
    exact ⟨hd, ho⟩
  · rw [List.concat_eq_append] at hb
    subst hb
    have q' : s ++ [d] = (a ++ e :: b') ++ [x] := by rw [q]; simp
    obtain ⟨h1, _⟩ := List.append_inj' q' rfl
    exact h a e b' h1
theorem Pth.dig {p : Int} {cs s : List Int} (h : Pth p cs s) : ∀ d ∈ s, 0 ≤ d ∧ d < p := fun d hd => by
  obtain ⟨a, b, e⟩ := List.append_of_mem hd
  exact (h a d b e).1
/-- a row: its stem s, d -/
structure RowAt (p : Int) (cs : List Int) (n : Nat) (r : Row) (s : List Int) (d : Int) : Prop where
  st : r.stem = s ++ [d]
  pth : Pth p cs s
  dig : 0 ≤ d ∧ d < p
  len : s.length + 1 ≤ n
  is : (r.word = wNone ∧ r.num = (see p cs s).1 ∧ ev (see p cs s).2 d % p ≠ 0) ∨ (r.word = wOne ∧ r.num = (see p cs s).1 - s.length ∧ ev (see p cs s).2 d % p = 0 ∧ ev (slo (see p cs s).2) d % p ≠ 0) ∨ (r.word = wOpen ∧ r.num = (see p cs (s ++ [d])).1 ∧ On p (see p cs s).2 d ∧ s.length + 1 = n)
theorem rowsD_mem {sub : Int → List Row} : ∀ {k : Nat} {a : Int} {r : Row}, r ∈ rowsD sub a k → ∃ d, a ≤ d ∧ d < a + k ∧ r ∈ sub d
  | 0, _, _, h => nomatch h
  | k + 1, a, r, h => by
    rw [rowsD] at h
    rcases List.mem_append.mp h with h | h
    · exact ⟨a, Int.le_refl _, by omega, h⟩
    · obtain ⟨d, h1, h2, h3⟩ := rowsD_mem h
      exact ⟨d, by omega, by omega, h3⟩
theorem gro_row {p : Int} {cs : List Int} : ∀ (m : Nat) (stem : List Int) (r : Row), r ∈ gro p m stem (see p cs stem) → Pth p cs stem → ∃ s d, RowAt p cs (stem.length + m) r s d ∧ ∃ z, s = stem ++ z
  | 0, _, _, h, _ => nomatch h
  | m + 1, stem, r, h, hp => by
    obtain ⟨d, h1, h2, h3⟩ := rowsD_mem (show r ∈ rowsD (rowsAt p m (gro p m) stem (see p cs stem)) 0 p.toNat from h)
    have hd : 0 ≤ d ∧ d < p := by omega
    unfold rowsAt at h3
    by_cases z1 : ev (see p cs stem).2 d % p = 0
    · rw [if_neg (fun q => q z1)] at h3
      by_cases z2 : ev (slo (see p cs stem).2) d % p = 0
      · rw [if_neg (fun q => q z2)] at h3
        have p' := hp.on hd ⟨z1, z2⟩
        by_cases z3 : m = 0
        · rw [if_pos z3] at h3
          rw [List.mem_singleton.mp h3]
          subst z3
          exact ⟨stem, d, ⟨rfl, hp, hd, by omega, .inr (.inr ⟨rfl, by rw [see_on], ⟨z1, z2⟩, rfl⟩)⟩, [], by simp⟩
        · rw [if_neg z3, ← see_on] at h3
          obtain ⟨s, e, hR, z, hz⟩ := gro_row m (stem ++ [d]) r h3 p'
          refine ⟨s, e, ?_, d :: z, by rw [hz]; simp⟩
          have : (stem ++ [d]).length + m = stem.length + (m + 1) := by rw [List.length_append, List.length_singleton]; omega
          rw [this] at hR
          exact hR
      · rw [if_pos z2] at h3
        rw [List.mem_singleton.mp h3]
        exact ⟨stem, d, ⟨rfl, hp, hd, by omega, .inr (.inl ⟨rfl, rfl, z1, z2⟩)⟩, [], by simp⟩
    · rw [if_pos z1] at h3
      rw [List.mem_singleton.mp h3]
      exact ⟨stem, d, ⟨rfl, hp, hd, by omega, .inl ⟨rfl, rfl, z1⟩⟩, [], by simp⟩
theorem tree_row {p : Int} {cs : List Int} {n : Nat} {r : Row} (h : r ∈ tree p cs n) : ∃ s d, RowAt p cs n r s d := by
  obtain ⟨s, d, hR, _⟩ := gro_row n [] r h Pth.nil
  rw [List.length_nil, Nat.zero_add] at hR
  exact ⟨s, d, hR⟩
theorem RowAt.digs {p : Int} {cs : List Int} {n : Nat} {r : Row} {s : List Int} {d : Int} (h : RowAt p cs n r s d) : ∀ e ∈ r.stem, 0 ≤ e ∧ e < p := fun e he => by
  rw [h.st] at he
  rcases List.mem_append.mp he with he | he
  · exact h.pth.dig e he
  · rw [List.mem_singleton.mp he]; exact h.dig
theorem RowAt.slen {p : Int} {cs : List Int} {n : Nat} {r : Row} {s : List Int} {d : Int} (h : RowAt p cs n r s d) : r.stem.length = s.length + 1 := by rw [h.st, List.length_append, List.length_singleton]
theorem lfN_pos {p d : Int} {qs : List Int} (hp : 2 ≤ p) (h : NzL qs) (hd : ev qs d % p = 0) : 1 ≤ lfN p (on1 p qs d) := by
  refine Classical.byContradiction fun z => ?_
  have n1 := on1_nz hp h d
  obtain ⟨q, hq, n⟩ := lfQ_no hp n1
  have z0 : lfN p (on1 p qs d) = 0 := by omega
  have e : lfQ p (on1 p qs d) = on1 p qs d := by
    unfold lfQ dvs
    rw [z0]
    simp
  rw [e] at hq
  obtain ⟨i, hi, rfl⟩ := mem_at0 hq
  refine n ?_
  have eb : at0 (on1 p qs d) i = at0 (shf d qs.length qs) i * p ^ i := by
    rw [shf_full h.ne]
    unfold on1
    rw [at0_scl, Int.one_mul]
  rw [eb]
  cases i with
  | zero =>
    have e0 := ev_shf d 0 qs.length qs (by omega)
    rw [Int.add_zero] at e0
    have : at0 (shf d qs.length qs) 0 = ev qs d := by
      rw [← e0]
      cases shf d qs.length qs with
      | nil => rfl
      | cons c r => rw [at0_cons0, ev, Int.zero_mul, Int.add_zero]
    rw [this, Int.pow_zero, Int.mul_one]
    exact hd
  | succ i => rw [Int.pow_succ, ← Int.mul_assoc]; exact Int.mul_emod_left _ _
theorem pth_lift {p : Int} {cs : List Int} (hp : 2 ≤ p) (h : NzL cs) : ∀ (n : Nat) (s : List Int), s.length = n → Pth p cs s → n ≤ (see p cs s).1
  | 0, _, _, _ => Nat.zero_le _
  | n + 1, s, hl, hP => by
    obtain ⟨a, e, rfl⟩ : ∃ a e, s = a ++ [e] := by
      rcases List.eq_nil_or_concat s with z | ⟨a, e, z⟩
      · rw [z] at hl; simp at hl
      · exact ⟨a, e, by rw [z, List.concat_eq_append]⟩
    rw [List.length_append, List.length_singleton] at hl
    have o := (hP a e [] rfl).2
    have ih := pth_lift hp h n a (by omega) (fun x y z q => by
      have := hP x y (z ++ [e]) (by rw [q]; simp)
      exact this)
    have S := see_ok hp h a
    have := lfN_pos hp S.nz o.1
    rw [see_on]
    show n + 1 ≤ (see p cs a).1 + lfN p (on1 p (see p cs a).2 e)
    omega
theorem sm_app (p : Int) (d : Int) : ∀ s : List Int, sm p (s ++ [d]) = sm p s + p ^ s.length * d
  | [] => by simp [sm]
  | e :: s => by rw [List.cons_append, sm, sm, sm_app p d s, List.length_cons, Int.pow_succ]; grind
theorem row_word {p : Int} {cs : List Int} {n : Nat} {r : Row} {s : List Int} {d : Int} (R : RowAt p cs n r s d) : r.word = wNone ∨ r.word = wOne ∨ r.word = wOpen := by
  rcases R.is with ⟨w, _⟩ | ⟨w, _⟩ | ⟨w, _⟩
  · exact .inl w
  · exact .inr (.inl w)
  · exact .inr (.inr w)
theorem seeL_lt {p : Int} (hp : 2 ≤ p) (hp2 : p.natAbs < 127) : ∀ (ds : List Int) (t : Nat × List Int) (m : Nat), (∀ d ∈ ds, d.natAbs < 127) → NzL t.2 → t.2.length ≤ 9 → (∀ c ∈ t.2, c.natAbs < 2 ^ m) → ∀ N : Nat, m + 600 * ds.length ≤ N → (seeL p t ds).1 ≤ t.1 + ds.length * N
  | [], t, m, _, _, _, _, N, _ => by rw [seeL]; simp
  | d :: ds, t, m, hd, hn, hl, hb, N, hN => by
    rw [List.length_cons] at hN
    have nz := on1_nz hp hn d
    have bb := on1_bd hp2 (hd d List.mem_cons_self) hl hb
    have lt := lfN_lt hp nz bb
    have ih := seeL_lt hp hp2 ds (t.1 + lfN p (on1 p t.2 d), lfQ p (on1 p t.2 d)) (m + 600) (fun x hx => hd x (List.mem_cons_of_mem _ hx)) (lfQ_nz hp nz) (by rw [lfQ_len, on1_len]; exact hl) (lfQ_bd bb) N (by omega)
    rw [seeL, List.length_cons, Nat.succ_mul]
    have ih' : (seeL p (t.1 + lfN p (on1 p t.2 d), lfQ p (on1 p t.2 d)) ds).1 ≤ t.1 + lfN p (on1 p t.2 d) + ds.length * N := ih
    omega
theorem see_num {p : Int} {cs : List Int} (hp : 2 ≤ p) (hp2 : p < 127) (h : NzL cs) (h9 : cs.length ≤ 9) (hb : ∀ c ∈ cs, c.natAbs < 2 ^ 300) {s : List Int} (hs : ∀ d ∈ s, d.natAbs < 127) (hl : s.length ≤ 12) : (see p cs s).1 ≤ 100000 := by
  have l0 := lfN_lt hp h hb
  have := seeL_lt hp (by omega) s (lfN p cs, lfQ p cs) 300 hs (lfQ_nz hp h) (by rw [lfQ_len]; exact h9) (lfQ_bd hb) 8000 (by omega)
  have e : s.length * 8000 ≤ 12 * 8000 := Nat.mul_le_mul_right _ hl
  have : (see p cs s).1 ≤ lfN p cs + s.length * 8000 := this
  omega
theorem row_num {p : Int} {cs : List Int} {n : Nat} {r : Row} {s : List Int} {d : Int} (hp : 2 ≤ p) (hp2 : p < 127) (h : NzL cs) (h9 : cs.length ≤ 9) (hb : ∀ c ∈ cs, c.natAbs < 2 ^ 300) (hn : n ≤ 12) (R : RowAt p cs n r s d) : 0 ≤ r.num ∧ r.num ≤ 100000 := by
  have ds : ∀ e ∈ s, e.natAbs < 127 := fun e he => by have := R.pth.dig e he; omega
  have hd := R.dig
  have hl := R.len
  have b1 := see_num hp hp2 h h9 hb ds (by omega)
  have b2 := see_num hp hp2 h h9 hb (s := s ++ [d]) (fun e he => by
    rcases List.mem_append.mp he with he | he
    · exact ds e he
    · rw [List.mem_singleton.mp he]; omega) (by rw [List.length_append, List.length_singleton]; omega)
  have L := pth_lift hp h s.length s rfl R.pth
  rcases R.is with ⟨_, e, _⟩ | ⟨_, e, _⟩ | ⟨_, e, _⟩ <;> omega
end PM
set_option Elab.async false
set_option linter.all false
set_option maxRecDepth 100000
set_option autoImplicit false
set_option exponentiation.threshold 20000
namespace PM
open PySem PySem.Spec L2 PL
open PyProof.Rows hiding St
theorem dv_seen {cs q : List Int} {s P Q : Int} (h : ∀ z, ev cs (s + P * z) = Q * ev q z) (hl : q.length = cs.length) (w : Int) : P * dv cs (s + P * w) = Q * dv q w := by
  by_cases P0 : P = 0
  · -- both sides vanish: q's worths are all alike
    subst P0
    obtain ⟨b, hb⟩ : ∃ b, b = (syn w q).tail := ⟨_, rfl⟩
    by_cases Q0 : Q = 0
    · rw [Q0]; simp
    · have e : ∀ z, w + 1 ≤ z → ev b z = ev (b.map fun _ => 0) z := fun z hz => by
        have e1 := ev_syn w z q
        rw [syn_head, ← hb] at e1
        have hz1 := h z
        have hw1 := h w
        rw [Int.zero_mul, Int.add_zero] at hz1 hw1
        have : ev q z = ev q w := Int.eq_of_mul_eq_mul_left Q0 (by rw [← hz1, ← hw1])
        rw [this] at e1
        have m0 : (z - w) * ev b z = 0 := by omega
        have : ev b z = 0 := by
          rcases Int.mul_eq_zero.mp m0 with y | y
          · omega
          · exact y
        rw [this]
        have z0 : ∀ l : List Int, ev (l.map fun _ => (0 : Int)) z = 0 := fun l => by
          induction l with
          | nil => rfl
          | cons a l ih => rw [List.map_cons, ev, ih]; simp
        rw [z0]
      have eb := ev_inj b _ (w + 1) (by rw [List.length_map]) e
      have : ev b w = 0 := by
        rw [eb]
        have z0 : ∀ l : List Int, ev (l.map fun _ => (0 : Int)) w = 0 := fun l => by
          induction l with
          | nil => rfl
          | cons a l ih => rw [List.map_cons, ev, ih]; simp
        exact z0 b
      rw [← ev_syn_tail w q, ← hb, this]; simp
  · obtain ⟨a, ha⟩ : ∃ a, a = (syn (s + P * w) cs).tail := ⟨_, rfl⟩
    obtain ⟨b, hb⟩ : ∃ b, b = (syn w q).tail := ⟨_, rfl⟩
    have la : a.length = b.length := by rw [ha, hb, List.length_tail, List.length_tail, syn_len, syn_len, hl]
    have EA : ∀ z, ev ((scl P 1 (shf s a.length a)).map fun c => P * c) z = P * ev a (s + P * z) := fun z => by
      rw [ev_mul, ev_scl, Int.one_mul, ev_shf s (P * z) a.length a (by omega)]
    have EB : ∀ z, ev (b.map fun c => Q * c) z = Q * ev b z := fun z => ev_mul Q z b
    have e := ev_inj ((scl P 1 (shf s a.length a)).map fun c => P * c) (b.map fun c => Q * c) (w + 1) (by rw [List.length_map, List.length_map, scl_len, shf_len, la]) (fun z hz => by
      rw [EA, EB]
      have e1 := ev_syn (s + P * w) (s + P * z) cs
      have e2 := ev_syn w z q
      rw [syn_head, ← ha, h z, h w] at e1
      rw [syn_head, ← hb] at e2
      refine Int.eq_of_mul_eq_mul_right (show z - w ≠ 0 by omega) ?_
      have : Q * ev q z - Q * ev q w = P * ev a (s + P * z) * (z - w) := by rw [e1]; grind
      rw [← this, e2]; grind)
    have f := EB w
    rw [← e, EA] at f
    rw [← ev_syn_tail (s + P * w) cs, ← ev_syn_tail w q, ← ha, ← hb]
    exact f
theorem row_one' {p : Int} {cs : List Int} {n : Nat} {r : Row} {s : List Int} {d : Int} (hp : 2 ≤ p) (h : NzL cs) (Ro : RowAt p cs n r s d) (hw : r.word = wOne) :
    ∃ (k : Nat) (c : Int), r.num = k ∧ c % p ≠ 0 ∧ dv cs (sm p r.stem) = p ^ k * c ∧ (∃ a, ev cs (sm p r.stem) = p ^ (k + r.stem.length) * a) ∧ ∀ z w : Int, ∃ u : Int, ev cs (sm p r.stem + p ^ r.stem.length * z) - ev cs (sm p r.stem + p ^ r.stem.length * w) = (p ^ r.stem.length * (z - w)) * p ^ k * u ∧ p ∣ u - c := by
  have S := see_ok hp h s
  have L := pth_lift hp h s.length s rfl Ro.pth
  rcases Ro.is with ⟨w, _⟩ | ⟨_, hn, hu, hs⟩ | ⟨w, _⟩
  · rw [hw] at w; exact absurd w (by decide +kernel)
  · obtain ⟨l, hl⟩ : ∃ l, l = (see p cs s).1 - s.length := ⟨_, rfl⟩
    have pl : p ^ (see p cs s).1 = p ^ s.length * p ^ l := by rw [← Int.pow_add]; congr 1; omega
    refine ⟨l, ev (slo (see p cs s).2) d, by omega, hs, ?_, ?_, fun z w => ?_⟩
    · have e := dv_seen S.ev S.len d
      rw [Ro.st, sm_app]
      refine Int.eq_of_mul_eq_mul_left (show p ^ s.length ≠ 0 from Int.pow_ne_zero (by omega)) ?_
      rw [e, ev_slo, pl, Int.mul_assoc]
    · obtain ⟨a, ha⟩ := Int.dvd_of_emod_eq_zero hu
      refine ⟨a, ?_⟩
      have e := S.ev d
      rw [Ro.st, sm_app, e, ha, pl, List.length_append, List.length_singleton, Int.pow_add, Int.pow_add, Int.pow_one]
      grind
    · obtain ⟨g, e, hg⟩ := ev_diff (p := p) (u := d + p * z) (v := d + p * w) (d := d) (see p cs s).2 ⟨z, by omega⟩ ⟨w, by omega⟩
      refine ⟨g, ?_, hg⟩
      have ez := S.ev (d + p * z)
      have ew := S.ev (d + p * w)
      rw [Ro.st, sm_app, List.length_append, List.length_singleton]
      rw [show sm p s + p ^ s.length * d + p ^ (s.length + 1) * z = sm p s + p ^ s.length * (d + p * z) by rw [Int.pow_succ]; grind, ez]
      rw [show sm p s + p ^ s.length * d + p ^ (s.length + 1) * w = sm p s + p ^ s.length * (d + p * w) by rw [Int.pow_succ]; grind, ew]
      rw [← Int.mul_sub, e, pl, Int.pow_succ]
      grind
  · rw [hw] at w; exact absurd w (by decide +kernel)
theorem undone_loop {p b : Int} (hp : 0 < p) {m : Nat} (hb : b.natAbs < 2 ^ m) (hm1 : 1 ≤ m) (hm : m ≤ 1000000) (pz : p < 1000) : ∀ (k : Nat) (a : Int) (s2 : Slot), 0 ≤ a → a + k ≤ p → (∃ j : Int, a ≤ j ∧ j < a + k ∧ j * b % p = 1) →
    ∃ t : Int, forL (gN 2) (bSeq (sIf (tB1 (e2 eqP (e2 modP (e2 mulP (eVo 2) (eVo 1)) (eVo 0)) (eC (.int 1)))) (bSeq (sRet (eV 2)) bNil) bNil) bNil) (rngL a k) [.val (.int p), .val (.int b), s2] = .ret (.int t) ∧ a ≤ t ∧ t < p ∧ t * b % p = 1
  | 0, a, s2, _, _, ⟨j, h1, h2, _⟩ => by omega
  | k + 1, a, s2, ha, hk, ⟨j, h1, h2, h3⟩ => by
    have mu : mulP (.int a) (.int b) = .ok (.int (a * b)) := mulP_ii (okMul_of (m := 20) (by omega) hb (by omega) (by omega) (by omega))
    have mo := modP_pos (a := a * b) hp
    by_cases q : a * b % p = 1
    · have q' : (a * b % p == 1) = true := by rw [beq_iff_eq]; exact q
      refine ⟨a, ?_, by omega, by omega, q⟩
      rw [rngL_step, forL_cons, gN_eq, onR_some]
      simp only [List.set_cons_succ, List.set_cons_zero, bSeq_eq, sIf_eq, tB1_eq, e2_eq, eVos, eVo0, eC_eq, bind1, mu, mo, eqP_ii, q', asB_eq, stB_ok, if_true, sRet_eq, eVs, eV0, st_ok, then_ret]
      rfl
    · have q' : (a * b % p == 1) = false := by rw [beq_eq_false_iff_ne]; exact q
      have ja : j ≠ a := fun z => q (by rw [← z]; exact h3)
      obtain ⟨t, i, t1, t2, t3⟩ := undone_loop hp hb hm1 hm pz k (a + 1) (.val (.int a)) (by omega) (by omega) ⟨j, by omega, by omega, h3⟩
      refine ⟨t, ?_, by omega, t2, t3⟩
      rw [← i, rngL_step, forL_cons, gN_eq, onR_some]
      simp only [List.set_cons_succ, List.set_cons_zero, bSeq_eq, sIf_eq, tB1_eq, e2_eq, eVos, eVo0, eC_eq, bind1, mu, mo, eqP_ii, q', asB_eq, stB_ok, if_neg Bool.false_ne_true, bNil_eq, then_next, fo_next]
theorem f_undone {p b : Int} (hp : p ∈ primesL) {m : Nat} (hb : b.natAbs < 2 ^ m) (hm1 : 1 ≤ m) (hm : m ≤ 1000000) (h : b % p ≠ 0) : ∃ t : Int, F_undone [.int p, .int b] = .ok (.int t) ∧ 1 ≤ t ∧ t < p ∧ t * b % p = 1 := by
  have pb := primesL_le p hp
  obtain ⟨j, j1, j2⟩ := inv_ex hp h
  have j0 : j ≠ 0 := fun z => by
    rw [z] at j2
    simp at j2
  obtain ⟨t, i, t1, t2, t3⟩ := undone_loop (p := p) (by omega) hb hm1 hm (by omega) (p - 1).toNat 1 .un (by omega) (by omega) ⟨j, by omega, by omega, by rw [Int.mul_comm]; exact j2⟩
  refine ⟨t, ?_, t1, t2, t3⟩
  have r2 : rng2 [.int 1, .int p] = .ok (rngL 1 (p - 1).toNat) := rng2_sm (by omega) (by omega) (by omega) (by omega)
  refine (runF_eq (n := 3) (u := D_undone)).trans ?_
  show (D_undone [.val (.int p), .val (.int b), .un]).res = _
  unfold D_undone
  rw [bSeq_eq, sFor_eq, show iR rng2 (aCons (eC (.int 1)) (aCons (eVo 0) aNil)) [.val (.int p), .val (.int b), .un] = .ok (rngL 1 (p - 1).toNat) by simp only [iR_eq, aCons_eq, aNil_eq, eC_eq, eVo0, bind1, r2], stL_ok, i, then_ret, res_ret]
theorem ixP_lastT (l : List PV) (x : PV) : ixP (.tup (l ++ [x])) (.int (-1)) = .ok x := by
  have := ixP_last l x
  unfold ixP at this ⊢
  exact this
theorem slP_init (l : List Int) (y : Int) : slP (.tup ((l ++ [y]).map PV.int)) none (some (-1)) = .ok (.tup (l.map PV.int)) := by
  rw [slP_t, List.map_append]
  exact congrArg (fun z => R.ok (PV.tup z)) (cut_last _ _)
theorem rise_loop {p : Int} (hp : 2 ≤ p ∧ p ≤ 97) (x y : PV) : ∀ (ds : List Int) (t : Nat × List Int) (M : Nat) (s5 s6 : Slot), At M t → M + 600 * ds.length ≤ 300000 → (∀ a e b, ds = a ++ e :: b → (0 ≤ e ∧ e < p) ∧ On p (seeL p t a).2 e) →
    ∃ s5' s6', forL (gN 5) (bSeq (sIf (tB1 (e2 neP (eD F_word_of (aCons (eV 0) (aCons (eV 4) (aCons (eV 5) aNil)))) (eC (.str "on")))) (bSeq (sRaise "NoRoot") bNil) bNil) (bSeq (sTo (gT (gsCons (gN 6) (gsCons (gN 4) gsNil))) (eD F_one_on (aCons (eV 0) (aCons (eV 4) (aCons (eV 5) aNil))))) (bSeq (sAug 3 (intP (fun _ _ => true) fun a b => .int (a + b)) (eVo 6)) bNil))) (ds.map PV.int) [.val (.int p), .val x, .val y, .val (.int t.1), .val (.lst (t.2.map PV.int)), s5, s6] = .next [.val (.int p), .val x, .val y, .val (.int (seeL p t ds).1), .val (.lst ((seeL p t ds).2.map PV.int)), s5', s6']
  | [], t, M, s5, s6, _, _, _ => ⟨s5, s6, by rw [List.map_nil, forL_nil, seeL]⟩
  | d :: ds, t, M, s5, s6, hA, hM, h => by
    rw [List.length_cons] at hM
    obtain ⟨hd, ho⟩ := h [] d ds rfl
    have ho' : On p t.2 d := ho
    have W := f_word_of (p := p) (d := d) (by omega) (by omega) (hA.nz.poly hA.l2 hA.l9) hA.bd (by omega)
    have wo : wrd p t.2 d = wOn := by unfold wrd; rw [if_neg (fun q => q ho'.1), if_neg (fun q => q ho'.2)]
    rw [wo] at W
    have q1 : neP (.str wOn) (.str "on") = .ok (.bl false) := (ne_ss ok_on ok_on).trans rfl
    have O := f_one_on (p := p) (d := d) (by omega) (by omega) (by omega) hA.nz hA.l9 hA.bd (by omega)
    obtain ⟨s5', s6', ih⟩ := rise_loop hp x y ds (nxt p t d) (M + 600) (.val (.int d)) (.val (.int (lfN p (on1 p t.2 d)))) (hA.next (by omega) (by omega)) (by omega) (fun a e b q => h (d :: a) e b (by rw [q]; rfl))
    refine ⟨s5', s6', ?_⟩
    rw [seeL]
    have ih' : forL (gN 5) _ (ds.map PV.int) [.val (.int p), .val x, .val y, .val (.int ((t.1 + lfN p (on1 p t.2 d) : Nat) : Int)), .val (.lst ((lfQ p (on1 p t.2 d)).map PV.int)), .val (.int d), .val (.int (lfN p (on1 p t.2 d)))] = .next [.val (.int p), .val x, .val y, .val (.int (seeL p (t.1 + lfN p (on1 p t.2 d), lfQ p (on1 p t.2 d)) ds).1), .val (.lst ((seeL p (t.1 + lfN p (on1 p t.2 d), lfQ p (on1 p t.2 d)) ds).2.map PV.int)), s5', s6'] := ih
    rw [← ih', List.map_cons, forL_cons, gN_eq, onR_some]
    have g : gT (gsCons (gN 6) (gsCons (gN 4) gsNil)) (.tup [.int (lfN p (on1 p t.2 d)), .lst ((lfQ p (on1 p t.2 d)).map PV.int)]) [.val (.int p), .val x, .val y, .val (.int t.1), .val (.lst (t.2.map PV.int)), .val (.int d), s6] = some [.val (.int p), .val x, .val y, .val (.int t.1), .val (.lst ((lfQ p (on1 p t.2 d)).map PV.int)), .val (.int d), .val (.int (lfN p (on1 p t.2 d)))] := rfl
    simp only [List.set_cons_succ, List.set_cons_zero]
    refine foN ?_
    refine sqK (by simp only [tB1_eq, e2_eq, eD_eq, aCons_eq, aNil_eq, eVs, eV0, eC_eq, bind1, W, q1, asB_eq]) ?_
    simp only [bSeq_eq, sTo_eq, eD_eq, aCons_eq, aNil_eq, eVs, eV0, bind1, O, st_ok, g, onR_some, then_next]
    rw [sAug_at (x := .int t.1) (y := .int (lfN p (on1 p t.2 d))) (z := .int (t.1 + lfN p (on1 p t.2 d))) rfl (by simp only [eVos, eVo0]) iadd_ii, then_next]
    simp only [List.set_cons_succ, List.set_cons_zero, bNil_eq, Int.natCast_add]
theorem f_is_stem {p : Int} {ds : List Int} (h1 : 1 ≤ ds.length) (h12 : ds.length ≤ 12) (hd : ∀ d ∈ ds, 0 ≤ d ∧ d < p) : F_is_stem [.int p, .tup (ds.map PV.int)] = .ok (.bl true) := by
  obtain ⟨D, hD⟩ : ∃ D, D = PV.tup (ds.map PV.int) := ⟨_, rfl⟩
  have it : isiP "tuple" D = .ok (.bl true) := by rw [isi_tuple, hD]; rfl
  have ln : lenP [D] = .ok (.int ds.length) := by rw [hD]; simp
  have l1 : decide ((ds.length : Int) < 1) = false := decide_eq_false (by omega)
  have l2 : decide (12 < (ds.length : Int)) = false := decide_eq_false (by omega)
  have go : ∀ l : List Int, (∀ d ∈ l, 0 ≤ d ∧ d < p) → lcGo (gN 2) cYes (eAn (eD F_is_whole (aCons (eV 2) aNil)) (eChain leP ltP (eC (.int 0)) (eVo 2) (eVo 0))) [.val (.int p), .val D, .un] (l.map PV.int) = .ok ((l.map fun _ => true).map PV.bl) := by
    intro l
    induction l with
    | nil => intro _; rfl
    | cons a l ih =>
      intro h
      have ha := h a List.mem_cons_self
      have i := ih fun z hz => h z (List.mem_cons_of_mem _ hz)
      have g1 : decide (0 ≤ a) = true := decide_eq_true ha.1
      have g2 : decide (a < p) = true := decide_eq_true ha.2
      rw [List.map_cons, lcGo, show gN 2 (.int a) [.val (.int p), .val D, .un] = some [.val (.int p), .val D, .val (.int a)] from rfl]
      dsimp only [cYes]
      rw [show eAn (eD F_is_whole (aCons (eV 2) aNil)) (eChain leP ltP (eC (.int 0)) (eVo 2) (eVo 0)) [.val (.int p), .val D, .val (.int a)] = .ok (.bl true) by
        simp only [eAn_eq, eChain_eq, eD_eq, aCons_eq, aNil_eq, eVs, eV0, eVos, eVo0, eC_eq, bind1, f_is_whole, isW_int, asB_eq, if_true, leP_ii, ltP_ii, g1, g2]]
      dsimp only
      rw [i]; rfl
  have L := eLc_ok (vs := [2]) (it := iS (eV 1)) (ρ := [.val (.int p), .val D, .un]) (items := ds.map PV.int) rfl (by rw [hD]; simp only [iS_eq, eVs, eV0, bind1, asS_t]) (by rw [List.length_map]; omega) (go ds hd)
  have al : allP [.lst ((ds.map fun _ => true).map PV.bl)] = .ok (.bl true) := by unfold allP; dsimp only; rw [asBs_of]; simp
  rw [← hD]
  refine (runF_eq (n := 3) (u := D_is_stem)).trans ?_
  show (D_is_stem [.val (.int p), .val D, .un]).res = _
  unfold D_is_stem
  refine skp (by simp only [tOr_eq, tNt_eq, tB1_eq, e1_eq, e2_eq, eD_eq, aCons_eq, aNil_eq, eVos, eVo0, eC_eq, bind1, it, ln, ltP_ii, gtP_ii, l1, l2, asB_eq, Bool.not_true, if_neg Bool.false_ne_true]) ?_
  simp only [bSeq_eq, sRet_eq, eD_eq, aCons_eq, aNil_eq, L, bind1, al, st_ok, then_ret, res_ret]
theorem f_rise_of {p : Int} {cs : List Int} {n : Nat} {r : Row} {s : List Int} {d : Int} (hp : 2 ≤ p ∧ p ≤ 97) (h : NzL cs) (h2 : 2 ≤ cs.length) (h9 : cs.length ≤ 9) (hb : ∀ c ∈ cs, c.natAbs < 2 ^ 300) (hn : n ≤ 12) (Ro : RowAt p cs n r s d) (hw : r.word = wOne) :
    F_rise_of [.int p, .lst (cs.map PV.int), .tup (r.stem.map PV.int)] = .ok (.int r.num) := by
  have sl := Ro.slen
  have rl := Ro.len
  have hA : At 300 (lfN p cs, lfQ p cs) := ⟨lfQ_nz (by omega) h, by show 2 ≤ (lfQ p cs).length; rw [lfQ_len]; exact h2, by show (lfQ p cs).length ≤ 9; rw [lfQ_len]; exact h9, lfQ_bd hb⟩
  have is := f_is_stem (p := p) (ds := r.stem) (by omega) (by omega) Ro.digs
  have S := f_seen_from (p := p) (ds := []) (by omega) (by omega) h h9 hb (fun _ z => nomatch z) (by simp)
  have S' : F_seen_from [.int p, .lst (cs.map PV.int), .tup []] = .ok (.tup [.int (lfN p cs), .lst ((lfQ p cs).map PV.int)]) := S
  have W : F_word_of [.int p, .lst ((see p cs s).2.map PV.int), .int d] = .ok (.str wOne) := by
    have Se := see_ok (p := p) (by omega) h s
    have bd := seeL_bd (p := p) (by omega) s (lfN p cs, lfQ p cs) 300 (fun e he => by have := Ro.pth.dig e he; omega) (by rw [lfQ_len]; exact h9) (lfQ_bd hb)
    have := f_word_of (p := p) (d := d) (by omega) (by have := Ro.dig; omega) (Se.nz.poly (by rw [Se.len]; exact h2) (by rw [Se.len]; exact h9)) bd (by omega)
    rw [this]
    rcases Ro.is with ⟨w, _⟩ | ⟨_, _, hu, hs⟩ | ⟨w, _⟩
    · rw [hw] at w; exact absurd w (by decide +kernel)
    · unfold wrd; rw [if_neg (fun q => q hu), if_pos hs]
    · rw [hw] at w; exact absurd w (by decide +kernel)
  have nm : ((see p cs s).1 : Int) - (r.stem.length : Int) + 1 = r.num := by
    rcases Ro.is with ⟨w, _⟩ | ⟨_, hn, hu, hs⟩ | ⟨w, _⟩
    · rw [hw] at w; exact absurd w (by decide +kernel)
    · omega
    · rw [hw] at w; exact absurd w (by decide +kernel)
  obtain ⟨C, hC⟩ : ∃ C, C = PV.lst (cs.map PV.int) := ⟨_, rfl⟩
  obtain ⟨D, hD⟩ : ∃ D, D = PV.tup (r.stem.map PV.int) := ⟨_, rfl⟩
  have ci : slP D none (some (-1)) = .ok (.tup (s.map PV.int)) := by rw [hD, Ro.st]; exact slP_init s d
  have la : ixP D (.int (-1)) = .ok (.int d) := by rw [hD, Ro.st, List.map_append]; exact ixP_lastT _ _
  have ln : lenP [D] = .ok (.int r.stem.length) := by rw [hD]; simp
  rw [← hC] at S'
  rw [← hD] at is
  obtain ⟨s5, s6, i⟩ := rise_loop hp C D s (lfN p cs, lfQ p cs) 300 .un .un hA (by omega) (fun a e b q => Ro.pth a e b q)
  have q2 : neP (.str wOne) (.str "one") = .ok (.bl false) := (ne_ss ok_one ok_one).trans rfl
  rw [← hC, ← hD]
  refine (runF_eq (n := 7) (u := D_rise_of)).trans ?_
  show (D_rise_of [.val (.int p), .val C, .val D, .un, .un, .un, .un]).res = _
  unfold D_rise_of
  refine skp (by simp only [tNt_eq, tB1_eq, eD_eq, aCons_eq, aNil_eq, eVs, eV0, bind1, is, asB_eq, Bool.not_true]) ?_
  refine stpN (ρ' := [.val (.int p), .val C, .val D, .val (.int (lfN p cs)), .val (.lst ((lfQ p cs).map PV.int)), .un, .un]) (by
    simp only [sTo_eq, eD_eq, aCons_eq, aNil_eq, eVs, eV0, bind1, tupP0, S', st_ok]; rfl) ?_
  refine stpFor (s.map PV.int) _ (by simp only [iS_eq, eSl_eq, oNone_eq, oSome_eq, e1_eq, eVos, eVo0, eC_eq, bind1, negP_eq, asI_eq, ci, asS_t]) i ?_
  have W' : F_word_of [.int p, .lst ((seeL p (lfN p cs, lfQ p cs) s).2.map PV.int), .int d] = .ok (.str wOne) := W
  refine skp (by simp only [tB1_eq, e2_eq, e1_eq, eD_eq, aCons_eq, aNil_eq, eVs, eV0, eVos, eVo0, eC_eq, bind1, negP_eq, la, W', q2, asB_eq]) ?_
  simp only [bSeq_eq, sRet_eq, e2_eq, eD_eq, aCons_eq, aNil_eq, eVos, eVo0, eC_eq, bind1, ln, subP_ii, addP_ii, st_ok, then_ret, res_ret]
  exact congrArg (fun z => R.ok (PV.int z)) nm
noncomputable def hen (p : Int) (cs : List Int) (k : Nat) (t r0 : Int) (m : Nat) : Nat → Int
  | 0 => r0
  | j + 1 => hen p cs k t r0 m j + -(ev cs (hen p cs k t r0 m j) / (p ^ k * p ^ (m + j))) * t % p * p ^ (m + j)
/-- the root so far: where it lies, and what its worth is -/
structure Hen (p : Int) (cs : List Int) (k : Nat) (r0 : Int) (m j : Nat) (r : Int) : Prop where
  lo : 0 ≤ r
  hi : r < p ^ (m + j)
  stem : ∃ z, r = r0 + p ^ m * z
  worth : ∃ a, ev cs r = p ^ (k + (m + j)) * a
theorem hen_step {p c t : Int} {cs : List Int} {k m : Nat} {r0 : Int} (hp : 2 ≤ p) (ht : t * c % p = 1) (hd : ∀ z w : Int, ∃ u : Int, ev cs (r0 + p ^ m * z) - ev cs (r0 + p ^ m * w) = (p ^ m * (z - w)) * p ^ k * u ∧ p ∣ u - c) {j : Nat} {r : Int} (H : Hen p cs k r0 m j r) :
    Hen p cs k r0 m (j + 1) (r + -(ev cs r / (p ^ k * p ^ (m + j))) * t % p * p ^ (m + j)) := by
  obtain ⟨z, hz⟩ := H.stem
  obtain ⟨a, ha⟩ := H.worth
  have P0 : p ^ k * p ^ (m + j) ≠ 0 := by rw [← Int.pow_add]; exact Int.pow_ne_zero (by omega)
  have ea : ev cs r / (p ^ k * p ^ (m + j)) = a := by rw [ha, Int.pow_add, Int.mul_ediv_cancel_left _ P0]
  rw [ea]
  obtain ⟨g, hg⟩ : ∃ g, g = -a * t % p := ⟨_, rfl⟩
  rw [← hg]
  have g0 : 0 ≤ g := by rw [hg]; exact Int.emod_nonneg _ (by omega)
  have g1 : g < p := by rw [hg]; exact Int.emod_lt_of_pos _ (by omega)
  have pm : 0 < p ^ (m + j) := Int.pow_pos (by omega)
  have e1 : r + g * p ^ (m + j) = r0 + p ^ m * (z + g * p ^ j) := by rw [hz, Int.pow_add]; grind
  obtain ⟨u, hu, hc⟩ := hd (z + g * p ^ j) z
  refine ⟨by have := Int.mul_nonneg g0 (show 0 ≤ p ^ (m + j) by omega); have := H.lo; omega, ?_, ⟨_, e1⟩, ?_⟩
  · have : (g + 1) * p ^ (m + j) ≤ p * p ^ (m + j) := Int.mul_le_mul_of_nonneg_right (by omega) (by omega)
    rw [show m + (j + 1) = (m + j) + 1 by omega, Int.pow_succ]
    have := H.hi
    grind
  · rw [← e1, ← hz] at hu
    -- a + g u is a multiple of p
    obtain ⟨v, hv⟩ := hc
    have tc : ∃ y, t * c = 1 + p * y := ⟨t * c / p, by have := Int.mul_ediv_add_emod (t * c) p; omega⟩
    obtain ⟨y, hy⟩ := tc
    have gg : ∃ x, g = -a * t + p * x := ⟨-(-a * t / p), by have := Int.mul_ediv_add_emod (-a * t) p; rw [hg]; grind⟩
    obtain ⟨x, hx⟩ := gg
    have hu' : u = c + p * v := by omega
    refine ⟨-a * y + x * c + g * v, ?_⟩
    have : ev cs (r + g * p ^ (m + j)) = ev cs r + (p ^ m * (z + g * p ^ j - z)) * p ^ k * u := by omega
    rw [this, ha]
    have k1 : p ^ m * (z + g * p ^ j - z) * p ^ k * u = p ^ (k + (m + j)) * (g * u) := by rw [Int.pow_add, Int.pow_add]; grind
    rw [k1, ← Int.mul_add]
    have k2 : a + g * u = p * (-a * y + x * c + g * v) := by
      rw [hu', hx]
      have : (-a * t + p * x) * (c + p * v) = -a * (t * c) + p * (x * c) + (-a * t + p * x) * (p * v) := by grind
      rw [this, hy]; grind
    rw [k2, show k + (m + (j + 1)) = (k + (m + j)) + 1 by omega, Int.pow_succ]
    grind
theorem hen_ok {p c t : Int} {cs : List Int} {k m : Nat} {r0 : Int} (hp : 2 ≤ p) (ht : t * c % p = 1) (hd : ∀ z w : Int, ∃ u : Int, ev cs (r0 + p ^ m * z) - ev cs (r0 + p ^ m * w) = (p ^ m * (z - w)) * p ^ k * u ∧ p ∣ u - c) (h0 : 0 ≤ r0) (h1 : r0 < p ^ m) (hw : ∃ a, ev cs r0 = p ^ (k + m) * a) : ∀ j, Hen p cs k r0 m j (hen p cs k t r0 m j)
  | 0 => ⟨h0, h1, ⟨0, by rw [hen]; simp⟩, hw⟩
  | j + 1 => hen_step hp ht hd (hen_ok hp ht hd h0 h1 hw j)
theorem sm_lt {p : Int} (hp : 2 ≤ p) : ∀ ds : List Int, (∀ d ∈ ds, 0 ≤ d ∧ d < p) → 0 ≤ sm p ds ∧ sm p ds < p ^ ds.length
  | [], _ => ⟨by rw [sm]; omega, by rw [sm]; simp⟩
  | d :: ds, h => by
    have ih := sm_lt hp ds fun z hz => h z (List.mem_cons_of_mem _ hz)
    have hd := h d List.mem_cons_self
    rw [sm, List.length_cons, Int.pow_succ]
    have a1 : 0 ≤ p * sm p ds := Int.mul_nonneg (by omega) ih.1
    have a2 : (sm p ds + 1) * p ≤ p ^ ds.length * p := Int.mul_le_mul_of_nonneg_right (by omega) (by omega)
    have a3 : (sm p ds + 1) * p = p * sm p ds + p := by grind
    omega
theorem stem_loop {p : Int} (hp : 2 ≤ p ∧ p ≤ 97) (x y z : PV) (k : PV) : ∀ (ds : List Int) (r b : Int) (m : Nat) (s7 s8 s9 s10 : Slot), (∀ d ∈ ds, 0 ≤ d ∧ d < p) → b.natAbs < 2 ^ m → 1 ≤ m → m + 7 * ds.length ≤ 1000000 →
    ∃ s7', forL (gN 7) (bSeq (sAug 5 (intP (fun _ _ => true) fun a b => .int (a + b)) (e2 mulP (eVo 7) (eVo 6))) (bSeq (sAug 6 mulP (eVo 0)) bNil)) (ds.map PV.int) [.val (.int p), .val x, .val y, .val z, .val k, .val (.int r), .val (.int b), s7, s8, s9, s10] = .next [.val (.int p), .val x, .val y, .val z, .val k, .val (.int (r + b * sm p ds)), .val (.int (b * p ^ ds.length)), s7', s8, s9, s10]
  | [], r, b, m, s7, s8, s9, s10, _, _, _, _ => ⟨s7, by rw [List.map_nil, forL_nil, sm]; simp⟩
  | d :: ds, r, b, m, s7, s8, s9, s10, h, hb, m1, hm => by
    rw [List.length_cons] at hm
    have hd := h d List.mem_cons_self
    obtain ⟨s7', ih⟩ := stem_loop hp x y z k ds (r + d * b) (b * p) (m + 7) (.val (.int d)) s8 s9 s10 (fun z hz => h z (List.mem_cons_of_mem _ hz)) (mul_bound hb (by omega)) (by omega) (by omega)
    refine ⟨s7', ?_⟩
    have e1 : r + d * b + b * p * sm p ds = r + b * sm p (d :: ds) := by rw [sm]; grind
    have e2' : b * p * p ^ ds.length = b * p ^ (d :: ds).length := by rw [List.length_cons, Int.pow_succ]; grind
    rw [e1, e2'] at ih
    have m1' : mulP (.int d) (.int b) = .ok (.int (d * b)) := mulP_ii (okMul_of (m := 7) (by omega) hb (by omega) (by omega) (by omega))
    have m2 : mulP (.int b) (.int p) = .ok (.int (b * p)) := mulP_ii (okMul_of (n := 7) hb (by omega) (by omega) (by omega) (by omega))
    rw [← ih, List.map_cons, forL_cons, gN_eq, onR_some]
    simp only [List.set_cons_succ, List.set_cons_zero]
    refine foN ?_
    refine sqG (.int r) (.int (d * b)) (.int (r + d * b)) rfl (by simp only [e2_eq, eVos, eVo0, bind1, m1']) iadd_ii ?_
    simp only [List.set_cons_succ, List.set_cons_zero]
    refine sqG (.int b) (.int p) (.int (b * p)) rfl (by simp only [eVo0]) m2 ?_
    simp only [List.set_cons_succ, List.set_cons_zero, bNil_eq]
theorem low_loop {p : Int} (hp : 2 ≤ p ∧ p ≤ 97) : ∀ (items : List PV) (ρ : Rho) (b : Int) (m : Nat), ρ[0]? = some (.val (.int p)) → ρ[8]? = some (.val (.int b)) → 9 < ρ.length → b.natAbs < 2 ^ m → 1 ≤ m → m + 7 * items.length ≤ 90000000 →
    ∃ s, forL (gN 9) (bSeq (sAug 8 mulP (eVo 0)) bNil) items ρ = .next ((ρ.set 8 (.val (.int (b * p ^ items.length)))).set 9 s)
  | [], ρ, b, m, h0, h8, hl, _, _, _ => ⟨ρ[9], by
    rw [forL_nil, List.length_nil, Int.pow_zero, Int.mul_one, set_self h8, set_self (List.getElem?_eq_getElem hl)]⟩
  | q :: items, ρ, b, m, h0, h8, hl, hb, m1, hm => by
    rw [List.length_cons] at hm
    have g8 : (ρ.set 9 (.val q))[8]? = some (.val (.int b)) := by rw [List.getElem?_set_ne (by omega)]; exact h8
    have g0 : (ρ.set 9 (.val q))[0]? = some (.val (.int p)) := by rw [List.getElem?_set_ne (by omega)]; exact h0
    have m2 : mulP (.int b) (.int p) = .ok (.int (b * p)) := mulP_ii (okMul_of (n := 7) hb (by omega) (by omega) (by omega) (by omega))
    obtain ⟨s, ih⟩ := low_loop hp items ((ρ.set 9 (.val q)).set 8 (.val (.int (b * p)))) (b * p) (m + 7) (by rw [List.getElem?_set_ne (by omega)]; exact g0) (List.getElem?_set_self (by rw [List.length_set]; omega)) (by rw [List.length_set, List.length_set]; exact hl) (mul_bound hb (by omega)) (by omega) (by omega)
    refine ⟨s, ?_⟩
    rw [forL_cons, gN_eq, onR_some, bSeq_eq, sAug_at g8 (eVo_of g0) m2, then_next, bNil_eq, fo_next, ih, List.set_set, List.set_comm _ _ (by omega : (9 : Nat) ≠ 8), List.set_set, List.length_cons, Int.pow_succ, Int.mul_assoc, Int.mul_comm p]
theorem hen_loop {p t : Int} {cs : List Int} {k m : Nat} {r0 : Int} (hp : 2 ≤ p ∧ p ≤ 97) (h9 : cs.length ≤ 9) (hb : ∀ c ∈ cs, c.natAbs < 2 ^ 300) (hk : (p ^ k).natAbs < 2 ^ 2000) (tb : 1 ≤ t ∧ t < p) (hH : ∀ j, Hen p cs k r0 m j (hen p cs k t r0 m j)) (x y pl : PV) (hx : x = .lst (cs.map PV.int)) :
    ∀ (n j : Nat) (a : Int) (s7 s9 : Slot), m + j + n ≤ 400 →
    ∃ s9', forL (gN 9) (bSeq (sAug 5 (intP (fun _ _ => true) fun a b => .int (a + b)) (e2 mulP (e2 modP (e2 mulP (e1 negP (e2 fdivP (eD F_whole_worth (aCons (eV 1) (aCons (eV 5) aNil))) (e2 mulP (eVo 8) (eVo 6)))) (eVo 10)) (eVo 0)) (eVo 6))) (bSeq (sAug 6 mulP (eVo 0)) bNil)) (rngL a n)
      [.val (.int p), .val x, .val y, .val pl, .val (.int k), .val (.int (hen p cs k t r0 m j)), .val (.int (p ^ (m + j))), s7, .val (.int (p ^ k)), s9, .val (.int t)] = .next [.val (.int p), .val x, .val y, .val pl, .val (.int k), .val (.int (hen p cs k t r0 m (j + n))), .val (.int (p ^ (m + (j + n)))), s7, .val (.int (p ^ k)), s9', .val (.int t)]
  | 0, j, a, s7, s9, _ => ⟨s9, by rw [show rngL a 0 = [] from rfl, forL_nil]; rfl⟩
  | n + 1, j, a, s7, s9, hn => by
    obtain ⟨s9', ih⟩ := hen_loop hp h9 hb hk tb hH x y pl hx n (j + 1) (a + 1) s7 (.val (.int a)) (by omega)
    refine ⟨s9', ?_⟩
    rw [show j + 1 + n = j + (n + 1) by omega] at ih
    have H := hH j
    obtain ⟨r, hr⟩ : ∃ r, r = hen p cs k t r0 m j := ⟨_, rfl⟩
    have e : hen p cs k t r0 m (j + 1) = r + -(ev cs r / (p ^ k * p ^ (m + j))) * t % p * p ^ (m + j) := by rw [hen, hr]
    rw [e] at ih
    rw [← hr] at H ⊢
    have pw : (p ^ (m + j)).natAbs < 2 ^ 2801 := Nat.lt_of_lt_of_le (pow_bound (m := 7) (by omega) _) (Nat.pow_le_pow_right (by omega) (by omega))
    have rb : r.natAbs < 2 ^ 2801 := by have := H.lo; have := H.hi; omega
    have W := f_whole_worth (cs := cs) rb hb (by omega) (by omega) (by omega)
    have Wb : (ev cs r).natAbs < 2 ^ 30000 := Nat.lt_of_lt_of_le (ev_bd rb cs hb) (Nat.pow_le_pow_right (by omega) (by
      have : (2801 + 1) * cs.length ≤ (2801 + 1) * 9 := Nat.mul_le_mul_left _ h9
      omega))
    obtain ⟨w, hw⟩ : ∃ w, w = ev cs r := ⟨_, rfl⟩
    have m1 : mulP (.int (p ^ k)) (.int (p ^ (m + j))) = .ok (.int (p ^ k * p ^ (m + j))) := mulP_ii (okMul_of hk pw (by omega) (by omega) (by omega))
    have pb := mul_bound hk pw
    have pp : 0 < p ^ k * p ^ (m + j) := Int.mul_pos (Int.pow_pos (by omega)) (Int.pow_pos (by omega))
    have p9 : p ^ k * p ^ (m + j) < 2 ^ 9000 := by
      have : (2 : Nat) ^ (2000 + 2801) ≤ 2 ^ 9000 := Nat.pow_le_pow_right (by omega) (by omega)
      have e2 : ((2 ^ 9000 : Nat) : Int) = (2 : Int) ^ 9000 := by simp
      omega
    have d1 := fdivP_pos (a := w) pp p9
    obtain ⟨q, hq⟩ : ∃ q, q = w / (p ^ k * p ^ (m + j)) := ⟨_, rfl⟩
    have qb : q.natAbs < 2 ^ 30000 := Nat.lt_of_le_of_lt (by rw [hq]; exact Int.natAbs_ediv_le_natAbs w _) (by rw [hw]; exact Wb)
    have m2 : mulP (.int (-q)) (.int t) = .ok (.int (-q * t)) := mulP_ii (okMul_of (m := 30000) (n := 7) (by omega) (by omega) (by omega) (by omega) (by omega))
    have mo := modP_pos (a := -q * t) (b := p) (by omega)
    have mb : (-q * t % p).natAbs < 2 ^ 7 := by have := Int.emod_nonneg (-q * t) (show p ≠ 0 by omega); have := Int.emod_lt_of_pos (-q * t) (show 0 < p by omega); omega
    have m3 : mulP (.int (-q * t % p)) (.int (p ^ (m + j))) = .ok (.int (-q * t % p * p ^ (m + j))) := mulP_ii (okMul_of mb pw (by omega) (by omega) (by omega))
    have m4 : mulP (.int (p ^ (m + j))) (.int p) = .ok (.int (p ^ (m + j) * p)) := mulP_ii (okMul_of (n := 7) pw (by omega) (by omega) (by omega) (by omega))
    rw [← hx, ← hw] at W
    rw [← hw, ← hq] at ih
    rw [← hq] at d1
    have p1 : p ^ (m + j) * p = p ^ (m + (j + 1)) := by rw [show m + (j + 1) = (m + j) + 1 by omega, Int.pow_succ]
    rw [← ih, rngL_step, forL_cons, gN_eq, onR_some]
    simp only [List.set_cons_succ, List.set_cons_zero]
    refine foN ?_
    refine sqG (.int r) (.int (-q * t % p * p ^ (m + j))) (.int (r + -q * t % p * p ^ (m + j))) rfl (by simp only [e2_eq, e1_eq, eD_eq, aCons_eq, aNil_eq, eVs, eV0, eVos, eVo0, bind1, W, m1, d1, negP_eq, m2, mo, m3]) iadd_ii ?_
    simp only [List.set_cons_succ, List.set_cons_zero]
    refine sqG (.int (p ^ (m + j))) (.int p) (.int (p ^ (m + (j + 1)))) rfl (by simp only [eVo0]) (by rw [m4, p1]) ?_
    simp only [List.set_cons_succ, List.set_cons_zero, bNil_eq]
/-- what root_of tells: the figures of a number that carries the stem on, whose worth is so often divided -/
theorem f_root_of {p : Int} {cs : List Int} {n : Nat} {r : Row} {s : List Int} {d : Int} (hp : p ∈ primesL) (h : NzL cs) (h2 : 2 ≤ cs.length) (h9 : cs.length ≤ 9) (hb : ∀ c ∈ cs, c.natAbs < 2 ^ 300) (hn : n ≤ 12) (Ro : RowAt p cs n r s d) (hw : r.word = wOne) :
    ∃ (k : Nat) (c : Int) (f : Nat → Int), r.num = k ∧ c % p ≠ 0 ∧ (∀ z w : Int, ∃ u : Int, ev cs (sm p r.stem + p ^ r.stem.length * z) - ev cs (sm p r.stem + p ^ r.stem.length * w) = (p ^ r.stem.length * (z - w)) * p ^ k * u ∧ p ∣ u - c) ∧ (p ^ k).natAbs < 2 ^ 2000 ∧ ∀ j, r.stem.length + j ≤ 400 → Hen p cs k (sm p r.stem) r.stem.length j (f j) ∧ (∃ g, f (j + 1) = f j + g * p ^ (r.stem.length + j)) ∧
      F_root_of [.int p, .lst (cs.map PV.int), .tup (r.stem.map PV.int), .int (r.stem.length + j : Nat)] = F_of_whole [.int p, .int 0, .int (f j), .int (r.stem.length + j : Nat)] := by
  have pb := primesL_le p hp
  obtain ⟨k, c, ek, nc, ed, ew, ho⟩ := row_one' (by omega) h Ro hw
  have sl := Ro.slen
  have rl := Ro.len
  obtain ⟨m, hm⟩ : ∃ m, m = r.stem.length := ⟨_, rfl⟩
  have sL := sm_lt (p := p) (by omega) r.stem Ro.digs
  have smb : (sm p r.stem).natAbs < 2 ^ 100 := by
    have : (p ^ r.stem.length).natAbs < 2 ^ 100 := Nat.lt_of_lt_of_le (pow_bound (m := 7) (by omega) _) (Nat.pow_le_pow_right (by omega) (by omega))
    omega
  have dvb : (ev (slo cs) (sm p r.stem)).natAbs < 2 ^ 2000 := Nat.lt_of_lt_of_le (ev_bd smb (slo cs) (slo_bd h9 hb)) (Nat.pow_le_pow_right (by omega) (by
    rw [slo_len]
    have : (100 + 1) * (cs.length - 1) ≤ (100 + 1) * 8 := Nat.mul_le_mul_left _ (by omega)
    omega))
  have kb : (p ^ k).natAbs < 2 ^ 2000 := by
    have e : (ev (slo cs) (sm p r.stem)).natAbs = (p ^ k).natAbs * c.natAbs := by rw [ev_slo, ed, Int.natAbs_mul]
    have : 1 ≤ c.natAbs := by
      have : c ≠ 0 := fun z => nc (by rw [z]; simp)
      omega
    have : (p ^ k).natAbs * 1 ≤ (p ^ k).natAbs * c.natAbs := Nat.mul_le_mul_left _ this
    omega
  have cb : c.natAbs < 2 ^ 2000 := by
    have e : (ev (slo cs) (sm p r.stem)).natAbs = (p ^ k).natAbs * c.natAbs := by rw [ev_slo, ed, Int.natAbs_mul]
    have pk : 1 ≤ (p ^ k).natAbs := by
      have : p ^ k ≠ 0 := Int.pow_ne_zero (by omega)
      omega
    have : 1 * c.natAbs ≤ (p ^ k).natAbs * c.natAbs := Nat.mul_le_mul_right _ pk
    omega
  obtain ⟨t, ft, t1, t2, t3⟩ := f_undone hp cb (by omega) (by omega) nc
  have HH := hen_ok (p := p) (t := t) (by omega) t3 ho sL.1 sL.2 ew
  refine ⟨k, c, hen p cs k t (sm p r.stem) r.stem.length, ek, nc, ho, kb, fun j hj => ⟨HH j, ⟨-(ev cs (hen p cs k t (sm p r.stem) r.stem.length j) / (p ^ k * p ^ (r.stem.length + j))) * t % p, by rw [hen]⟩, ?_⟩⟩
  have hp' : isP (.int p) = true := by simp [isP, hp]
  have w := f_want_poly_ok (f_is_poly_ok (h.poly h2 h9))
  have ri := f_rise_of pb h h2 h9 hb hn Ro hw
  rw [ek] at ri
  have sp := f_slope_ofM (m := 300) (by omega) (h.poly h2 h9) hb
  have ws := f_whole_worth (cs := slo cs) smb (slo_bd h9 hb) (by omega) (by omega) (by rw [slo_len]; omega)
  rw [ev_slo, ed] at ws
  have pk0 : 0 < p ^ k := Int.pow_pos (by omega)
  have pk9 : p ^ k < 2 ^ 9000 := by
    have : (2 : Nat) ^ 2000 ≤ 2 ^ 9000 := Nat.pow_le_pow_right (by omega) (by omega)
    have e2 : ((2 ^ 9000 : Nat) : Int) = (2 : Int) ^ 9000 := by simp
    omega
  have dv1 := fdivP_pos (a := p ^ k * c) pk0 pk9
  rw [Int.mul_ediv_cancel_left _ (by omega)] at dv1
  obtain ⟨C, hC⟩ : ∃ C, C = PV.lst (cs.map PV.int) := ⟨_, rfl⟩
  obtain ⟨D, hD⟩ : ∃ D, D = PV.tup (r.stem.map PV.int) := ⟨_, rfl⟩
  have ln : lenP [D] = .ok (.int r.stem.length) := by rw [hD]; simp
  have l1 : decide (((r.stem.length + j : Nat) : Int) < (r.stem.length : Int)) = false := decide_eq_false (by omega)
  have l2 : decide (400 < ((r.stem.length + j : Nat) : Int)) = false := decide_eq_false (by omega)
  have rk : k ≤ 100000 := by
    have := row_num (by omega) (by omega) h h9 hb hn Ro
    omega
  obtain ⟨s7, i7⟩ := stem_loop pb C D (.int (r.stem.length + j : Nat)) (.int k) r.stem 0 1 1 .un .un .un .un Ro.digs (by decide) (by omega) (by omega)
  rw [Int.zero_add, Int.one_mul, Int.one_mul] at i7
  obtain ⟨s9, i9⟩ := low_loop pb (rngL 0 k) [.val (.int p), .val C, .val D, .val (.int (r.stem.length + j : Nat)), .val (.int k), .val (.int (sm p r.stem)), .val (.int (p ^ r.stem.length)), s7, .val (.int 1), .un, .un] 1 1 rfl rfl (by simp) (by decide) (by omega) (by rw [rngL_len]; omega)
  rw [rngL_len, Int.one_mul] at i9
  simp only [List.set_cons_succ, List.set_cons_zero] at i9
  obtain ⟨s9', ih⟩ := hen_loop (t := t) pb h9 hb kb ⟨t1, t2⟩ HH C D (.int (r.stem.length + j : Nat)) hC j 0 r.stem.length s7 s9 (by omega)
  rw [Nat.zero_add, Nat.add_zero] at ih
  have ih' : forL (gN 9) _ (rngL (r.stem.length : Int) j) [.val (.int p), .val C, .val D, .val (.int (r.stem.length + j : Nat)), .val (.int k), .val (.int (sm p r.stem)), .val (.int (p ^ r.stem.length)), s7, .val (.int (p ^ k)), s9, .val (.int t)] = _ := ih
  have rk2 : rng1 [.int (k : Int)] = .ok (rngL 0 k) := by rw [rng1_sm (by omega) (by omega)]; rfl
  have r2 : rng2 [.int (r.stem.length : Int), .int (r.stem.length + j : Nat)] = .ok (rngL r.stem.length j) := by
    rw [rng2_all, show (((r.stem.length + j : Nat) : Int) - (r.stem.length : Int)).toNat = j by omega]
  rw [← hC] at w sp ri
  rw [← hD] at ri
  rw [← hC, ← hD]
  refine (runF_eq (n := 11) (u := D_root_of)).trans ?_
  show (D_root_of [.val (.int p), .val C, .val D, .val (.int (r.stem.length + j : Nat)), .un, .un, .un, .un, .un, .un, .un]).res = _
  unfold D_root_of
  refine skp (by simp only [tNt_eq, tB1_eq, eD_eq, aCons_eq, aNil_eq, eV0, bind1, f_is_prime, hp', asB_eq, Bool.not_true]) ?_
  refine stpN (ρ' := [.val (.int p), .val C, .val D, .val (.int (r.stem.length + j : Nat)), .un, .un, .un, .un, .un, .un, .un]) (by simp only [sDrop_eq, eD_eq, aCons_eq, aNil_eq, eVs, eV0, bind1, w, st_ok]) ?_
  refine stp (.int k) (by simp only [eD_eq, aCons_eq, aNil_eq, eVs, eV0, bind1, ri]) ?_
  simp only [List.set_cons_succ, List.set_cons_zero]
  refine skp (by simp only [tOr_eq, tNt_eq, tB1_eq, e2_eq, eD_eq, aCons_eq, aNil_eq, eVs, eV0, eVos, eVo0, eC_eq, bind1, f_is_whole, isW_int, ln, ltP_ii, gtP_ii, l1, l2, asB_eq, Bool.not_true, if_neg Bool.false_ne_true]) ?_
  refine stp (.int 0) (by rw [eC_eq]) ?_
  simp only [List.set_cons_succ, List.set_cons_zero]
  refine stp (.int 1) (by rw [eC_eq]) ?_
  simp only [List.set_cons_succ, List.set_cons_zero]
  refine stpFor (r.stem.map PV.int) _ (by rw [hD]; simp only [iS_eq, eVs, eV0, bind1, asS_t]) i7 ?_
  refine stp (.int 1) (by rw [eC_eq]) ?_
  simp only [List.set_cons_succ, List.set_cons_zero]
  refine stpFor (rngL 0 k) _ (by simp only [iR_eq, aCons_eq, aNil_eq, eVos, eVo0, bind1, rk2]) i9 ?_
  refine stp (.int t) (by simp only [e2_eq, eD_eq, aCons_eq, aNil_eq, eVs, eV0, eVos, eVo0, bind1, sp, ws, dv1, ft]) ?_
  simp only [List.set_cons_succ, List.set_cons_zero]
  refine stpFor (rngL r.stem.length j) _ (by simp only [iR_eq, aCons_eq, aNil_eq, eD_eq, eVos, eVo0, bind1, ln, r2]) ih' ?_
  simp only [bSeq_eq, sRet_eq, eD_eq, aCons_eq, aNil_eq, eVs, eV0, eC_eq, bind1]
  cases F_of_whole [.int p, .int 0, .int (hen p cs k t (sm p r.stem) r.stem.length j), .int (r.stem.length + j : Nat)] with
  | ok q => rw [st_ok, then_ret, res_ret]
  | exc c => rfl
  | stuck => rfl
end PM
set_option Elab.async false
set_option linter.all false
set_option maxRecDepth 100000
set_option autoImplicit false
set_option exponentiation.threshold 20000
namespace PM
open PySem PySem.Spec L2 PL
open PyProof.Rows hiding St
def Apt (a b : List Int) : Prop := ∃ c d1 u d2 v, a = c ++ d1 :: u ∧ b = c ++ d2 :: v ∧ d1 < d2
def hit (p z : Int) (r : Row) : Bool := (z - sm p r.stem) % p ^ r.stem.length == 0
def wsum (p : Int) (n : Nat) (l : List Row) : Int := (l.map fun r => p ^ (n - r.stem.length)).sum
theorem wsum_app (p : Int) (n : Nat) (a b : List Row) : wsum p n (a ++ b) = wsum p n a + wsum p n b := by unfold wsum; rw [List.map_append, List.sum_append]
structure Par (p : Int) (n : Nat) (s : List Int) (l : List Row) : Prop where
  ext : ∀ r ∈ l, ∃ z, r.stem = s ++ z
  apt : l.Pairwise fun a b => Apt a.stem b.stem
  sum : wsum p n l = p ^ (n - s.length)
  one : ∀ z, (l.filter (hit p z)).length = if (z - sm p s) % p ^ s.length = 0 then 1 else 0
structure ParD (p : Int) (n : Nat) (s : List Int) (a k : Nat) (l : List Row) : Prop where
  ext : ∀ r ∈ l, ∃ (d : Int) (z : List Int), a ≤ d ∧ d < a + k ∧ r.stem = s ++ d :: z
  apt : l.Pairwise fun a b => Apt a.stem b.stem
  sum : wsum p n l = k * p ^ (n - (s.length + 1))
  one : ∀ z, (l.filter (hit p z)).length = if (z - sm p s) % p ^ s.length = 0 ∧ a ≤ (z - sm p s) / p ^ s.length % p ∧ (z - sm p s) / p ^ s.length % p < a + k then 1 else 0
theorem hit_dig {p P y a : Int} (hp : 2 ≤ p) (hP : 0 < P) (ha : 0 ≤ a) (ha2 : a < p) : (y - P * a) % (P * p) = 0 ↔ y % P = 0 ∧ y / P % p = a := by
  constructor
  · intro h
    obtain ⟨w, hw⟩ := Int.dvd_of_emod_eq_zero h
    have e : y = P * (a + p * w) := by rw [Int.mul_add, ← Int.mul_assoc, ← hw]; omega
    rw [e, Int.mul_emod_right, Int.mul_ediv_cancel_left _ (by omega), Int.add_mul_emod_self_left]
    exact ⟨rfl, Int.emod_eq_of_lt ha ha2⟩
  · rintro ⟨h1, h2⟩
    obtain ⟨q, hq⟩ := Int.dvd_of_emod_eq_zero h1
    rw [hq, Int.mul_ediv_cancel_left _ (by omega)] at h2
    have e := Int.mul_ediv_add_emod q p
    rw [h2] at e
    have : y - P * a = P * p * (q / p) := by rw [hq, Int.mul_assoc, ← e]; grind
    rw [this, Int.mul_emod_right]
theorem par_rowsD {p : Int} {n : Nat} {s : List Int} (hp : 2 ≤ p) (hn : s.length + 1 ≤ n) {sub : Int → List Row} (h : ∀ d : Int, 0 ≤ d → d < p → Par p n (s ++ [d]) (sub d)) : ∀ (k a : Nat), ((a + k : Nat) : Int) ≤ p → ParD p n s a k (rowsD sub a k)
  | 0, a, _ => ⟨fun _ hr => (List.not_mem_nil hr).elim, .nil, by simp [rowsD, wsum], fun z => by rw [rowsD, List.filter_nil, List.length_nil, if_neg (by omega)]⟩
  | k + 1, a, hk => by
    have ih := par_rowsD hp hn h k (a + 1) (by omega)
    have ha := h (a : Int) (by omega) (by omega)
    rw [show (((a + 1 : Nat)) : Int) = (a : Int) + 1 by omega] at ih
    refine ⟨fun r hr => ?_, ?_, ?_, fun z => ?_⟩
    · rw [rowsD] at hr
      rcases List.mem_append.mp hr with hr | hr
      · obtain ⟨z, hz⟩ := ha.ext r hr
        exact ⟨a, z, by omega, by omega, by rw [hz]; simp⟩
      · obtain ⟨d, z, d1, d2, hz⟩ := ih.ext r hr
        exact ⟨d, z, by omega, by omega, hz⟩
    · rw [rowsD]
      refine List.pairwise_append.mpr ⟨ha.apt, ih.apt, fun x hx y hy => ?_⟩
      obtain ⟨z, hz⟩ := ha.ext x hx
      obtain ⟨d, w, d1, d2, hw⟩ := ih.ext y hy
      exact ⟨s, a, z, d, w, by rw [hz]; simp, hw, by omega⟩
    · rw [rowsD, wsum_app, ha.sum, ih.sum, List.length_append, List.length_singleton]
      have : ((k + 1 : Nat) : Int) = (k : Int) + 1 := by omega
      rw [this]
      grind
    · rw [rowsD, List.filter_append, List.length_append, ha.one z, ih.one z, sm_app, List.length_append, List.length_singleton, Int.pow_succ]
      have P0 : 0 < p ^ s.length := Int.pow_pos (by omega)
      have e : z - (sm p s + p ^ s.length * (a : Int)) = (z - sm p s) - p ^ s.length * a := by omega
      rw [e]
      have q := hit_dig (p := p) (P := p ^ s.length) (y := z - sm p s) (a := a) hp P0 (by omega) (by omega)
      by_cases c1 : (z - sm p s) % p ^ s.length = 0
      · by_cases c2 : (z - sm p s) / p ^ s.length % p = a
        · rw [if_pos (q.mpr ⟨c1, c2⟩), if_neg (by omega), if_pos ⟨c1, by omega, by omega⟩]
        · rw [if_neg (fun t => c2 (q.mp t).2)]
          by_cases c3 : (a : Int) + 1 ≤ (z - sm p s) / p ^ s.length % p ∧ (z - sm p s) / p ^ s.length % p < (a : Int) + 1 + k
          · rw [if_pos ⟨c1, by omega, by omega⟩, if_pos ⟨c1, by omega, by omega⟩]
          · rw [if_neg (by omega), if_neg (by omega)]
      · rw [if_neg (fun t => c1 (q.mp t).1), if_neg (fun t => c1 t.1), if_neg (fun t => c1 t.1)]
theorem par_one (p : Int) {n : Nat} {s : List Int} {w : Str} {x : Int} : Par p n s [⟨s, w, x⟩] := by
  refine ⟨fun r hr => ⟨[], by rw [List.mem_singleton.mp hr]; simp⟩, List.pairwise_singleton _ _, by simp [wsum], fun z => ?_⟩
  by_cases c : (z - sm p s) % p ^ s.length = 0
  · rw [if_pos c, List.filter_cons_of_pos (by unfold hit; simp [c])]; simp
  · rw [if_neg c, List.filter_cons_of_neg (by unfold hit; simp [c])]; simp
theorem gro_par {p : Int} (hp : 2 ≤ p) : ∀ (m n : Nat) (s : List Int) (t : Nat × List Int), s.length + m + 1 = n → Par p n s (gro p (m + 1) s t) := by
  intro m
  induction m with
  | zero =>
    intro n s t hn
    have P := par_rowsD (n := n) (s := s) hp (by omega) (sub := rowsAt p 0 (gro p 0) s t) (fun d d0 d1 => by
      unfold rowsAt
      split
      · exact par_one p
      · split
        · exact par_one p
        · rw [if_pos rfl]; exact par_one p) p.toNat 0 (by omega)
    exact par_of hp (by omega) P
  | succ m ih =>
    intro n s t hn
    have P := par_rowsD (n := n) (s := s) hp (by omega) (sub := rowsAt p (m + 1) (gro p (m + 1)) s t) (fun d d0 d1 => by
      unfold rowsAt
      split
      · exact par_one p
      · split
        · exact par_one p
        · rw [if_neg (by omega)]
          exact ih n (s ++ [d]) _ (by rw [List.length_append, List.length_singleton]; omega)) p.toNat 0 (by omega)
    exact par_of hp (by omega) P
where
  par_of {p : Int} {n : Nat} {s : List Int} {l : List Row} (hp : 2 ≤ p) (hn : s.length + 1 ≤ n) (P : ParD p n s 0 p.toNat l) : Par p n s l := by
    refine ⟨fun r hr => ?_, P.apt, ?_, fun z => ?_⟩
    · obtain ⟨d, z, _, _, e⟩ := P.ext r hr
      exact ⟨_, e⟩
    · rw [P.sum, show n - s.length = (n - (s.length + 1)) + 1 by omega, Int.pow_succ, Int.toNat_of_nonneg (by omega), Int.mul_comm]
    · rw [P.one z]
      have := Int.emod_nonneg ((z - sm p s) / p ^ s.length) (show p ≠ 0 by omega)
      have := Int.emod_lt_of_pos ((z - sm p s) / p ^ s.length) (show 0 < p by omega)
      by_cases c : (z - sm p s) % p ^ s.length = 0
      · rw [if_pos c, if_pos ⟨c, by omega, by omega⟩]
      · rw [if_neg c, if_neg (fun t => c t.1)]
theorem tree_par {p : Int} (hp : 2 ≤ p) {cs : List Int} {d : Nat} (hd : 1 ≤ d) : Par p d [] (tree p cs d) := by
  obtain ⟨m, rfl⟩ : ∃ m, d = m + 1 := ⟨d - 1, by omega⟩
  exact gro_par hp m (m + 1) [] _ (by simp)
theorem ok_stem (l : List Int) : okD 30 (.tup (l.map PV.int)) = true := by rw [okD_tup]; simp
theorem lc_rowsF {α : Type} {tgt : PV → Rho → Option Rho} {test : Rho → R Bool} {elt : Rho → R PV} {ρ : Rho} (f g : α → PV) (c : α → Bool) : ∀ l : List α, (∀ r ∈ l, ∃ ρ', tgt (f r) ρ = some ρ' ∧ test ρ' = .ok (c r) ∧ (c r = true → elt ρ' = .ok (g r))) → lcGo tgt test elt ρ (l.map f) = .ok ((l.filter c).map g)
  | [], _ => rfl
  | r :: l, h => by
    obtain ⟨ρ', h1, h2, h3⟩ := h r List.mem_cons_self
    have ih := lc_rowsF f g c l fun q hq => h q (List.mem_cons_of_mem _ hq)
    rw [List.map_cons]
    unfold lcGo
    rw [h1]
    dsimp only
    rw [h2]
    cases hc : c r with
    | false => dsimp only; rw [ih, List.filter_cons_of_neg (by rw [hc]; decide)]
    | true =>
      dsimp only
      rw [h3 hc]
      dsimp only
      rw [ih, List.filter_cons_of_pos hc, List.map_cons]
end PM
set_option Elab.async false
set_option linter.all false
set_option maxRecDepth 100000
set_option autoImplicit false
set_option exponentiation.threshold 20000
namespace PM
open PySem PySem.Spec L2 PL
open PyProof.Rows hiding St
abbrev Nd := List Int × (Nat × List Int)
noncomputable def tlL (p : Int) (w : Nd) (d : Int) : List Row := if ev w.2.2 d % p ≠ 0 then [⟨w.1 ++ [d], wNone, w.2.1⟩] else if ev (slo w.2.2) d % p ≠ 0 then [⟨w.1 ++ [d], wOne, w.2.1 - w.1.length⟩] else []
def dgL {α : Type} (f : Int → List α) : Int → Nat → List α
  | _, 0 => []
  | a, k + 1 => f a ++ dgL f (a + 1) k
noncomputable def told (p : Int) (W : List Nd) : List Row := W.flatMap fun w => dgL (tlL p w) 0 p.toNat
end PM
set_option Elab.async false
set_option linter.all false
set_option maxRecDepth 100000
set_option autoImplicit false
set_option exponentiation.threshold 20000
namespace PM
open PySem PySem.Spec L2 PL
open PyProof.Rows hiding St
def sq2 (ds : List Int) : Bool := (ds.drop 1).take 2 == ([0, 0] : List Int).take (ds.length - 1)
theorem sl2 (ds : List Int) (h : ds ≠ []) : ∃ a b : PV, slP (.tup (ds.map PV.int)) (some 1) (some 3) = .ok a ∧ slP (.tup [.int 0, .int 0]) none (some ((ds.length : Int) - 1)) = .ok b ∧ neP a b = .ok (.bl (!sq2 ds)) ∧ eqP a b = .ok (.bl (sq2 ds)) := by
  have l1 : 1 ≤ ds.length := List.length_pos_iff.mpr h
  have e1 : slP (.tup (ds.map PV.int)) (some 1) (some 3) = .ok (.tup (((ds.drop 1).take 2).map PV.int)) := by
    rw [slP_t, cut_both _ _ _ (by omega) (by omega), ← List.map_drop, ← List.map_take]; rfl
  have e2' : slP (.tup [.int 0, .int 0]) none (some ((ds.length : Int) - 1)) = .ok (.tup ((([0, 0] : List Int).take (ds.length - 1)).map PV.int)) := by
    rw [slP_t, cut_take _ _ (by omega), show ((ds.length : Int) - 1).toNat = ds.length - 1 by omega, List.map_take]; rfl
  refine ⟨_, _, e1, e2', ?_, ?_⟩
  · rw [neP_ok (ok_stem _) (ok_stem _), eqV_tt, eqVs_ints]; rfl
  · rw [eqP_ok (ok_stem _) (ok_stem _), eqV_tt, eqVs_ints]; rfl
end PM
set_option Elab.async false
set_option linter.all false
set_option maxRecDepth 100000
set_option autoImplicit false
set_option exponentiation.threshold 20000
namespace PM
open PySem PySem.Spec L2 PL
open PyProof.Rows hiding St
theorem pw_unit {p m : Int} (hp : 2 ≤ p) (hm : m % p ≠ 0) {k v : Nat} (h : p ^ k ∣ m * p ^ v) : k ≤ v := by
  by_cases c : k ≤ v
  · exact c
  · exfalso
    obtain ⟨j, rfl⟩ : ∃ j, k = v + 1 + j := ⟨k - v - 1, by omega⟩
    obtain ⟨w, hw⟩ := h
    have P0 : p ^ v ≠ 0 := Int.pow_ne_zero (by omega)
    have : p ^ v * m = p ^ v * (p * (p ^ j * w)) := by
      rw [Int.pow_add, Int.pow_succ] at hw
      grind
    have := Int.eq_of_mul_eq_mul_left P0 this
    exact hm (by rw [this]; exact Int.mul_emod_right _ _)
theorem valX {p t : Int} (hp : 2 ≤ p) (h : t ≠ 0) : ∃ (m : Int) (v : Nat), t = m * p ^ v ∧ m % p ≠ 0 := by
  obtain ⟨m, v, e, hm, _⟩ := vp_spec hp h
  exact ⟨m, v, e, hm⟩
end PM
set_option Elab.async false
set_option linter.all false
set_option maxRecDepth 100000
set_option autoImplicit false
set_option exponentiation.threshold 20000
namespace PM
open PySem PySem.Spec L2 PL
open PyProof.Rows hiding St
theorem solve {p b : Int} (hp : p ∈ primesL) (hb : b % p ≠ 0) (t : Int) : ∀ J : Nat, ∃ x, p ^ J ∣ b * x - t
  | 0 => ⟨0, ⟨b * 0 - t, by simp⟩⟩
  | J + 1 => by
    have pb := primesL_le p hp
    obtain ⟨x, w, hw⟩ := solve hp hb t J
    obtain ⟨j, j1, j2⟩ := inv_ex hp hb
    obtain ⟨y, hy⟩ : ∃ y, b * (j : Int) = 1 + p * y := ⟨b * j / p, by have := Int.mul_ediv_add_emod (b * j) p; omega⟩
    refine ⟨x - j * w * p ^ J, -(y * w), ?_⟩
    rw [Int.pow_succ]
    have : b * (x - j * w * p ^ J) - t = (b * x - t) - (b * j) * w * p ^ J := by grind
    rw [this, hw, hy]; grind
theorem ndvd_mul {p x y : Int} (hp : p ∈ primesL) {a b : Nat} (ha : ¬ p ^ a ∣ x) (hb : ¬ p ^ b ∣ y) : ¬ p ^ (a + b) ∣ x * y := by
  have pb := primesL_le p hp
  intro h
  have x0 : x ≠ 0 := fun z => ha (by rw [z]; exact ⟨0, by simp⟩)
  have y0 : y ≠ 0 := fun z => hb (by rw [z]; exact ⟨0, by simp⟩)
  obtain ⟨m, v, rfl, hm⟩ := valX (p := p) (by omega) x0
  obtain ⟨n, w, rfl, hn⟩ := valX (p := p) (by omega) y0
  have va : v < a := by
    by_cases q : v < a
    · exact q
    · exact absurd ⟨m * p ^ (v - a), by
        have : p ^ v = p ^ a * p ^ (v - a) := by rw [← Int.pow_add]; congr 1; omega
        rw [this]; grind⟩ ha
  have wb : w < b := by
    by_cases q : w < b
    · exact q
    · exact absurd ⟨n * p ^ (w - b), by
        have : p ^ w = p ^ b * p ^ (w - b) := by rw [← Int.pow_add]; congr 1; omega
        rw [this]; grind⟩ hb
  rw [show m * p ^ v * (n * p ^ w) = (m * n) * p ^ (v + w) by rw [Int.pow_add]; grind] at h
  have := pw_unit (by omega) (prime_mulI hp hm hn) h
  omega
/-- a fraction is alike, up to a stem's length, to its sum -/
def ins (p : Int) (r : Row) (q : Int × Int) : Bool := (q.1 - q.2 * sm p r.stem) % p ^ r.stem.length == 0
end PM
set_option Elab.async false
set_option linter.all false
set_option maxRecDepth 100000
set_option autoImplicit false
set_option exponentiation.threshold 20000
namespace PM
open PySem PySem.Spec L2 PL
open PyProof.Rows hiding St
end PM
set_option Elab.async false
set_option linter.all false
set_option maxRecDepth 100000
set_option autoImplicit false
namespace PM
open PySem PySem.Spec L2 PL
open PyProof.Rows hiding St
end PM
set_option Elab.async false
set_option linter.all false
set_option maxRecDepth 100000
set_option autoImplicit false
set_option exponentiation.threshold 20000
namespace PM
open PySem PySem.Spec L2 PL TL
open PyProof.Rows hiding St
/-- signs of the lower kind -/
def Asc (l : List Nat) : Prop := ∀ c ∈ l, c < 128
theorem Asc.take {a : List Nat} (h : Asc a) (n : Nat) : Asc (a.take n) := fun c z => h c ((List.take_sublist _ _).subset z)
theorem Asc.drop {a : List Nat} (h : Asc a) (n : Nat) : Asc (a.drop n) := fun c z => h c ((List.drop_sublist _ _).subset z)
theorem Asc.cons {c : Nat} {a : List Nat} (h : c < 128) (h2 : Asc a) : Asc (c :: a) := fun d z => (List.mem_cons.mp z).elim (fun e => e ▸ h) (h2 d)
theorem Asc.nil : Asc [] := fun _ z => nomatch z
@[simp] theorem iStrP_eq {f : Rho → R PV} {ρ : Rho} : iStrP f ρ = (f ρ).bind fun p => match p with
  | .str x => .ok (signsP x)
  | _ => .stuck := nr rfl
@[simp] theorem eM_eq {g : PV → PV → R PV} {f h : Rho → R PV} {ρ : Rho} : eM g f h ρ = (f ρ).bind fun p => match p with
  | .str _ => (h ρ).bind fun q => g p q
  | _ => .stuck := nr rfl
/-- the figures of a word -/
def figs (l : List Nat) : List Nat := if l.head? = some 45 then l.tail else l
end PM
set_option Elab.async false
set_option linter.all false
set_option maxRecDepth 100000
set_option autoImplicit false
noncomputable section
namespace PH
open PySem PySem.Spec L2 PL
open PyProof.Rows hiding St
abbrev AlT : Type := Bool × List He.FnW
/-- two names for two maps, so that the kernel does not compare what they map by -/
def mapO (K : PySem.W.Frag) (fn : List He.DefD) : List He.FnW := fn.rec [] fun d _ r => He.fnW K d.at_ :: r
def mapV (fn : List He.DefD) : List He.FnW := fn.foldr (fun d r => d.val :: r) []
theorem mapO_eq (K : PySem.W.Frag) : ∀ fn : List He.DefD, mapO K fn = fn.map fun d => He.fnW K d.at_
  | [] => rfl
  | d :: r => congrArg (He.fnW K d.at_ :: ·) (mapO_eq K r)
theorem mapV_eq : ∀ fn : List He.DefD, mapV fn = fn.map He.DefD.val
  | [] => rfl
  | d :: r => congrArg (d.val :: ·) (mapV_eq r)
def obsT (t : PySem.W.Frag → List (List Bool)) (fn : List He.DefD) (K : PySem.W.Frag) : AlT := (((t K).all fun l => l.all id) && fn.all fun d => d.ok K, mapO K fn)
def valT (fn : List He.DefD) : AlT := (true, mapV fn)
def SaysT (t : PySem.W.Frag → List (List Bool)) (fn : List He.DefD) (K : PySem.W.Frag) : Prop := obsT t fn K = valT fn
/-- what the module's names stand for (what is no def ahead of the defs), then what these name: codes, defaults, a class's names; then the methods, then their codes -/
def lowR (o : Obj) : List Addr := match o.data with
  | .func fd => He.refV fd.code ++ He.refV fd.defaults
  | .cls cd => [cd.ns]
  | _ => []
def isFu (g : Addr → Option Obj) (a : Addr) : Bool := match g a with
  | some ⟨_, _, .func _, _⟩ => true
  | _ => false
def namR (o : Obj) : List Addr := match o.data with
  | .dict es _ => es.toList.flatMap fun e => He.refV e.val
  | _ => []
def stepR (r : Obj → List Addr) (g : Addr → Option Obj) (as : List Addr) : List Addr := as.flatMap fun a => match g a with
  | some o => r o
  | none => []
def asK (g : Addr → Option Obj) : Nat → List Addr
  | 0 => mainGlobals :: stepR namR g [mainGlobals]
  | 1 =>
    let l := stepR namR g [mainGlobals]
    let cs := l.filter fun a => !isFu g a
    let fs := l.filter (isFu g)
    let ns := stepR lowR g cs
    let ms := stepR namR g ns
    mainGlobals :: (cs ++ (ns ++ (ms ++ (stepR lowR g ms ++ (fs ++ stepR lowR g fs)))))
  | _ => []
def obsTG (n : Nat) (t : PySem.W.Frag → List (List Bool)) (fn : List He.DefD) (g : Addr → Option Obj) : AlT := obsT t fn (He.frG g (asK g n))
def hookT (n : Nat) (t : PySem.W.Frag → List (List Bool)) (fn : List He.DefD) : PySem.W.Hook where
  α := AlT
  obs := fun s => obsTG n t fn s.heap.get?
  val := fun _ => valT fn
  says := fun _ h => ∃ K : PySem.W.Frag, K.In h ∧ SaysT t fn K
  of := fun _ _ e => ⟨_, He.frG_in, e⟩
  keeps := fun _ _ _ ⟨K, hK, c⟩ k => ⟨K, PySem.W.Frag.In.keeps hK k, c⟩
theorem obsTG_eq {n : Nat} {t : PySem.W.Frag → List (List Bool)} {fn : List He.DefD} {g : Addr → Option Obj} {s : Shared} (h : ∀ a, g a = s.heap.get? a) : obsTG n t fn g = (hookT n t fn).obs s := by
  have e : g = s.heap.get? := funext h
  rw [e] <;> rfl
def obT (n : Nat) (t : PySem.W.Frag → List (List Bool)) (fn : List He.DefD) (s : PySem.W.SharedT) : AlT := obsTG n t fn (HandSHeadRun.getT s)
theorem obT_eq {n : Nat} {t : PySem.W.Frag → List (List Bool)} {fn : List He.DefD} (s : PySem.W.SharedT) : obT n t fn s = (hookT n t fn).obs s.abs := obsTG_eq (HandSHeadRun.getT_eq s)
section
variable {t : PySem.W.Frag → List (List Bool)} {fn : List He.DefD} {K : PySem.W.Frag}
theorem SaysT.chunk (c : SaysT t fn K) (i : Nat) {l : List Bool} (h : (t K)[i]? = some l) : l.all id = true := by
  have c1 := (He.ba (show (((t K).all fun l => l.all id) && fn.all fun d => d.ok K) = true from congrArg (fun z : AlT => z.1) c)).1
  exact List.all_eq_true.mp c1 l (List.mem_of_getElem? h)
theorem fact {l : List Bool} (h : l.all id = true) (i : Nat) {b : Bool} (e : l[i]? = some b) : b = true := List.all_eq_true.mp h b (List.mem_of_getElem? e)
theorem SaysT.def_ (c : SaysT t fn K) (i : Nat) {d : He.DefD} (h : fn[i]? = some d) : ∃ fd, FunD K d.name d.qual d.params d.body d.scope (d.dvs K) (d.kws K) (He.fAd K d.at_) fd := by
  have c2 := (He.ba (show (((t K).all fun l => l.all id) && fn.all fun d => d.ok K) = true from congrArg (fun z : AlT => z.1) c)).2
  have e : fn.map (fun d => He.fnW K d.at_) = fn.map He.DefD.val := by
    rw [← mapO_eq, ← mapV_eq]
    exact congrArg (fun z : AlT => z.2) c
  have e2 : (fn.map fun d => He.fnW K d.at_)[i]? = (fn.map He.DefD.val)[i]? := by rw [e]
  rw [List.getElem?_map, List.getElem?_map, h] at e2
  exact He.DefD.funD (Option.some.inj e2) (List.all_eq_true.mp c2 d (List.mem_of_getElem? h))
end
/-- what the walk wants of a def -/
theorem lok {K : PySem.W.Frag} {x q : Str} {st : Stmt} {f : Addr} (h : ∃ fd, FunD K x q (defArgs st) (defBody st) (defScope st) [] [] f fd) :
    ∃ (oc : Value) (od : Option Addr) (kV doc pm : Value) (an : Option Addr) (cdv ct : Value) (osl : Array (Option Value)), K.lookup f = some ⟨oc, od, .func (PySem.W.fnOf x q (defArgs st) (defBody st) (defScope st) .none kV doc pm an cdv ct), osl⟩ ∧ PySem.W.codeIn K cdv q = true ∧ PySem.W.keepIn K (.ref f) = true := by
  obtain ⟨fd, ⟨⟨oc, od, dV, kV, dc, pm, an, cd, ct, sl, rfl, l, c, dd, _⟩, k⟩⟩ := h
  rcases dd with ⟨_, rfl⟩ | ⟨z, _⟩
  · exact ⟨oc, od, kV, dc, pm, an, cd, ct, sl, l, c, k⟩
  · exact absurd rfl z
/-- .. of a def whose last parameter has the default 1 -/
theorem lokD {K : PySem.W.Frag} {x q : Str} {st : Stmt} {f : Addr} (h : ∃ fd, FunD K x q (defArgs st) (defBody st) (defScope st) [.int 1] [] f fd) :
    ∃ (oc : Value) (od : Option Addr) (T : Addr) (kV doc pm : Value) (an : Option Addr) (cdv ct : Value) (osl : Array (Option Value)) (tc : Value) (td : Option Addr) (tt : Tok) (tm : Nat) (tl : Array (Option Value)), K.lookup f = some ⟨oc, od, .func (PySem.W.fnOf x q (defArgs st) (defBody st) (defScope st) (.ref T) kV doc pm an cdv ct), osl⟩ ∧ PySem.W.codeIn K cdv q = true ∧ PySem.W.keepIn K (.ref f) = true ∧ K.lookup T = some ⟨tc, td, .seq #[.int 1 tt] tm, tl⟩ := by
  obtain ⟨fd, ⟨⟨oc, od, dV, kV, dc, pm, an, cd, ct, sl, rfl, l, c, dd, _⟩, k⟩⟩ := h
  rcases dd with ⟨z, _⟩ | ⟨_, T, ob, its, m, rfl, lt, he, hv⟩
  · exact nomatch z
  · obtain ⟨tc, td, dt, tl⟩ := ob
    cases hv with
    | cons h1 h2 =>
      cases h2
      obtain ⟨tt, rfl⟩ := h1
      have he' : dt = Data.seq #[.int 1 tt] m := by simpa using he
      subst he'
      exact ⟨oc, od, T, kV, dc, pm, an, cd, ct, sl, tc, td, tt, m, tl, l, c, k, lt⟩
def intB (K : PySem.W.Frag) (x : Str) (i : Int) : Bool := match PySem.W.nsIn K mainGlobals x with
  | some (some (.int j _)) => decide (j = i)
  | _ => false
theorem intB_ok {K : PySem.W.Frag} {x : Str} {i : Int} (h : intB K x i = true) : ∃ t, PySem.W.nsIn K mainGlobals x = some (some (.int i t)) := by
  unfold intB at h
  cases e : PySem.W.nsIn K mainGlobals x with
  | none => rw [e] at h; cases h
  | some o =>
    rw [e] at h
    cases o with
    | none => cases h
    | some v =>
      cases v with
      | int j t => rw [← of_decide_eq_true h]; exact ⟨t, rfl⟩
      | _ => cases h
theorem walk_ofEB {l : PySem.W.OpenLaw} {n k : Nat} {q : Program} {loose : List Str} {XP : (Str → Option Value) → Heap → Prop} {YP : World → Heap → Prop} {d : DefRec} {CX : World → CXT} {x : Str}
    (hn : l.most = some n) (hn2 : n ≤ sizeLine) (hdf : d.params.defaults = []) (hr : Room k callerA)
    (F : ∀ (w : World) (mg : Str → Option Value) (fa : Addr) (h : Heap), YP w h → h.Ns mainGlobals mg → mg d.name = some (.ref fa) →
      ∃ (K : PySem.W.Frag) (fd : FuncData) (sp : Sp), K.In h ∧ (∀ (s : Shared) (u : Value), BindsTo s fd ⟨[u], []⟩ [(x, u)]) ∧
        (∀ (H : Hp) (a : Addr) (ns : List Int), ns.length ≤ n → (∀ z ∈ ns, Builtin.Int.intBits z ≤ 1048576) → Only H → SqL K H a (ns.map V.int) → sp [.ref a] H (fun v _ => v = .bl true) fun _ _ _ => False) ∧
        ∀ base : Heap, K.In base → base.Ns mainGlobals mg → FnOk l.prog w K mg base (CX w) k fa fd [x] sp)
    (hCX : ∀ (w : World) (H : Hp) (s : Shared) (e : Value) (s' : Shared), CX w [] H s (fun _ _ _ => False) e s' → False) :
    PySem.W.WalkO q loose XP YP l.row.toRowW d [] (fun f vs => PySem.call f vs) := by
  refine Att.attach_callB hn hdf fun w s₀ s₁ mg mb fa o pm cd doc a vs ns G Y ho hd hcd hmg hobj hints hlen hbits hg => ?_
  obtain ⟨K, fd, sp, KX, hb, hsp, hF⟩ := F w mg fa _ Y G.T.g hmg
  exact law_call KX G.T.g G.T.b G.T.builtins G.T.nolimit hg hobj hints (Nat.le_trans hlen hn2) hr hF hb (fun H hO hS => hsp H a ns hlen hbits hO hS) fun H e s' => hCX w H s₁ e s'
end PH
end
set_option Elab.async false
set_option linter.all false
set_option maxRecDepth 100000
set_option autoImplicit false
namespace L2
open PySem PySem.Spec PyProof.Rows
open PySem.W (EachIs AllAlike Sortable dataLe dataLt alike KdlKeysView KdlSrc)
end L2
set_option Elab.async false
set_option linter.all false
set_option maxRecDepth 100000
set_option autoImplicit false
namespace PL
open PySem PySem.Spec L2
open PyProof.Rows hiding St
abbrev DL : Type := List ((Int × Int) × Int)
def valD (l : DL) (k : Int × Int) : Option Int := (l.find? fun e => decide (e.1 = k)).map (·.2)
def putD (l : DL) (k : Int × Int) (v : Int) : DL := if (l.any fun e => decide (e.1 = k)) = true then l.map (fun e => if e.1 = k then (e.1, v) else e) else l ++ [(k, v)]
def keyD (k : Int × Int) : List L2.Key := [.inl k.1, .inl k.2]
theorem key_inj {a b : Int × Int} : keyD a = keyD b ↔ a = b := by
  obtain ⟨a1, a2⟩ := a
  obtain ⟨b1, b2⟩ := b
  unfold keyD
  constructor
  · intro h
    injection h with h1 h2
    injection h2 with h2 _
    cases h1; cases h2; rfl
  · intro h; cases h; rfl
theorem key_dec (a b : Int × Int) : decide (keyD a = keyD b) = decide (a = b) := by rw [decide_eq_decide]; exact key_inj
theorem enc_cons (e : (Int × Int) × Int) (l : DL) : encD (e :: l) = (keyD e.1, V.int e.2) :: encD l := rfl
theorem enc_app (l r : DL) : encD (l ++ r) = encD l ++ encD r := List.map_append
theorem enc_len (l : DL) : (encD l).length = l.length := List.length_map ..
theorem val_enc (k : Int × Int) : ∀ l : DL, valV (encD l) (keyD k) = (valD l k).map V.int
  | [] => rfl
  | e :: l => by
    have ih := val_enc k l
    rw [enc_cons]
    by_cases h : e.1 = k
    · rw [valV_pos (show (keyD e.1, V.int e.2).1 = keyD k by rw [h])]
      unfold valD
      rw [List.find?_cons, decide_eq_true h]; rfl
    · rw [valV_neg (show ¬ (keyD e.1, V.int e.2).1 = keyD k from fun z => h (key_inj.mp z)), ih]
      unfold valD
      rw [List.find?_cons, decide_eq_false h]
theorem any_enc (k : Int × Int) : ∀ l : DL, ((encD l).any fun kv => decide (kv.1 = keyD k)) = l.any fun e => decide (e.1 = k)
  | [] => rfl
  | e :: l => by
    rw [enc_cons, List.any_cons, List.any_cons, any_enc k l]
    show (decide (keyD e.1 = keyD k) || _) = _
    rw [key_dec]
theorem map_enc (k : Int × Int) (v : Int) : ∀ l : DL, ((encD l).map fun kv => if kv.1 = keyD k then (kv.1, V.int v) else kv) = encD (l.map fun e => if e.1 = k then (e.1, v) else e)
  | [] => rfl
  | e :: l => by
    rw [enc_cons, List.map_cons, List.map_cons, enc_cons, map_enc k v l]
    congr 1
    show (if keyD e.1 = keyD k then (keyD e.1, V.int v) else (keyD e.1, V.int e.2)) = _
    by_cases h : e.1 = k
    · rw [if_pos (key_inj.mpr h), if_pos h]
    · rw [if_neg (fun z => h (key_inj.mp z)), if_neg h]
theorem put_enc (l : DL) (k : Int × Int) (v : Int) : putK (encD l) (keyD k) (V.int v) = encD (putD l k v) := by
  unfold putK putD
  rw [any_enc]
  by_cases h : (l.any fun e => decide (e.1 = k)) = true
  · rw [if_pos h, if_pos h, map_enc]
  · rw [if_neg h, if_neg h, enc_app]; rfl
section
variable {K : PySem.W.Frag} {H0 H H' : Hp} {O0 : Addr → Prop} {σ : St} {ρ : Rho}
theorem dd_ne_own {i : Nat} {a : Addr} {l l' : DL} {j : Nat} {s : Slot} (h1 : ρ[i]? = some (.dd a l)) (hs : ∀ a l, s ≠ .dd a l) : (ρ.set i (.dd a l'))[j]? = some s ↔ ρ[j]? = some s := by
  by_cases e : i = j
  · subst e
    rw [List.getElem?_set_self (List.getElem?_eq_some_iff.mp h1).1, h1]
    exact ⟨fun z => absurd (Option.some.inj z).symm (hs _ _), fun z => absurd (Option.some.inj z).symm (hs _ _)⟩
  · rw [List.getElem?_set_ne e]
theorem oo_dd {i : Nat} {a : Addr} {l l' : DL} (h1 : ρ[i]? = some (.dd a l)) (b : Addr) : OO O0 σ (ρ.set i (.dd a l')) b ↔ OO O0 σ ρ b := by
  unfold OO
  have := fun (j : Nat) (ps : List PV) => dd_ne_own (l' := l') (j := j) (s := .own ps) h1 (fun _ _ z => nomatch z)
  simp only [this]
/-- what stands in the dict is changed -/
theorem StR.putDd (S : StR K H0 O0 H σ ρ) {i : Nat} {a : Addr} {l : DL} (l' : DL) (h1 : ρ[i]? = some (.dd a l)) : StR K H0 O0 (upd H a (.dT (encD l'))) σ (ρ.set i (.dd a l')) := by
  obtain ⟨e1, e2, e3, e4, e5, e6⟩ := S.dds i a l h1
  have nt : ∀ b xs, O0 b → upd H a (.dT (encD l')) b ≠ some (.tup xs) := fun b xs o z => by
    by_cases q : b = a
    · rw [q, upd_same] at z; cases z
    · rw [upd_ne q] at z; exact e6 b xs o z
  have hk : ∀ b o, H b = some o → ¬ OO O0 σ ρ b → upd H a (.dT (encD l')) b = some o ∧ ¬ OO O0 σ (ρ.set i (.dd a l')) b := fun b o hb nb =>
    ⟨by rw [upd_ne (fun z => nb (by rw [z]; exact .inl e3))]; exact hb, fun z => nb ((oo_dd h1 b).mp z)⟩
  have own' := fun (j : Nat) (ps : List PV) => dd_ne_own (l' := l') (j := j) (s := .own ps) h1 (fun _ _ z => nomatch z)
  have val' := fun (j : Nat) (p : PV) => dd_ne_own (l' := l') (j := j) (s := .val p) h1 (fun _ _ z => nomatch z)
  have ex' := fun (j : Nat) (p : Addr) => dd_ne_own (l' := l') (j := j) (s := .ex p) h1 (fun _ _ z => nomatch z)
  have dd' : ∀ (j : Nat) (b : Addr) (m : DL), (ρ.set i (.dd a l'))[j]? = some (.dd b m) → (j = i ∧ b = a ∧ m = l') ∨ (j ≠ i ∧ ρ[j]? = some (.dd b m)) := fun j b m h => by
    by_cases e : i = j
    · subst e
      rw [List.getElem?_set_self (List.getElem?_eq_some_iff.mp h1).1] at h
      cases h
      exact .inl ⟨rfl, rfl, rfl⟩
    · rw [List.getElem?_set_ne e] at h
      exact .inr ⟨fun z => e z.symm, h⟩
  refine ⟨by rw [List.length_set, S.len], fun b o hb => ?_, fun b hb => ?_, fun j ps h => ?_, fun j k b ps qs g1 g2 g3 g4 => ?_, fun j p h => ?_, fun j b h => S.exs j b ((ex' j b).mp h), fun j b m h => ?_⟩
  · rw [upd_ne (fun z => by rw [z, e4] at hb; cases hb)]; exact S.same b o hb
  · by_cases e : b = a
    · rw [e, upd_same]; exact fun z => nomatch z
    · rw [upd_ne e]; exact S.all0 b hb
  · obtain ⟨b, vs, f1, f2, f3, f4, f5⟩ := S.own j ps ((own' j ps).mp h)
    exact ⟨b, vs, f1, by rw [upd_ne (fun z => f4 (by rw [z]; exact e3))]; exact f2, f3, f4, f5.mono hk⟩
  · exact S.dis j k b ps qs ((own' j ps).mp g1) ((own' k qs).mp g2) g3 g4
  · obtain ⟨v, f1, f2⟩ := S.val j p ((val' j p).mp h)
    exact ⟨v, f1, f2.mono hk⟩
  · rcases dd' j b m h with ⟨rfl, rfl, rfl⟩ | ⟨n, h2⟩
    · refine ⟨e1, upd_same, e3, e4, fun j2 l2 h2 => ?_, nt⟩
      rcases dd' j2 b l2 h2 with ⟨q, _⟩ | ⟨_, q⟩
      · exact q
      · exact e5 j2 l2 q
    · obtain ⟨f1, f2, f3, f4, f5, f6⟩ := S.dds j b m h2
      have ba : b ≠ a := fun z => n (e5 j m (by rw [← z]; exact h2))
      refine ⟨f1, by rw [upd_ne ba]; exact f2, f3, f4, fun j2 l2 h3 => ?_, nt⟩
      rcases dd' j2 b l2 h3 with ⟨_, q, _⟩ | ⟨_, q⟩
      · exact absurd q ba
      · exact f5 j2 l2 q
theorem kept_put {i : Nat} {a : Addr} {l l' : DL} (S : StR K H0 O0 H σ ρ) (h1 : ρ[i]? = some (.dd a l)) : Kept (OO O0 σ ρ) H (OO O0 σ (ρ.set i (.dd a l'))) (upd H a (.dT (encD l'))) := fun b o hb nb => by
  obtain ⟨_, _, e3, _⟩ := S.dds i a l h1
  exact ⟨by rw [upd_ne (fun z => nb (by rw [z]; exact .inl e3))]; exact hb, fun z => nb ((oo_dd h1 b).mp z)⟩
/-- a new dict in an empty slot -/
theorem StR.newDd (S : StR K H0 O0 H σ ρ) {i : Nat} {a : Addr} (hn : H a = none) (hi : i < ρ.length) (ht : ∀ b xs, O0 b → H b ≠ some (.tup xs)) : StR K H0 (fun b => O0 b ∨ b = a) (upd H a (.dT [])) (σ.set i (some (.ref a))) (ρ.set i (.dd a [])) := by
  have S1 := (forbid (o := .dT []) S hn).set (i := i) (v := some (.ref a)) (s := .un) (fun _ z => nomatch z) (fun _ z => nomatch z) (fun _ z => nomatch z) (fun _ _ z => nomatch z)
  have ne : ∀ {j : Nat} {s : Slot}, (∀ b m, s ≠ .dd b m) → (ρ.set i (.dd a []))[j]? = some s → (ρ.set i .un)[j]? = some s := fun {j s} hs h => by
    by_cases e : i = j
    · subst e
      rw [List.getElem?_set_self hi] at h
      exact absurd (Option.some.inj h).symm (hs _ _)
    · rw [List.getElem?_set_ne e] at h ⊢
      exact h
  have nt : ∀ b xs, (O0 b ∨ b = a) → upd H a (.dT []) b ≠ some (.tup xs) := fun b xs o z => by
    by_cases q : b = a
    · rw [q, upd_same] at z; cases z
    · rw [upd_ne q] at z; exact o.elim (fun o => ht b xs o z) q
  have no : ∀ {j : Nat} {m : DL}, ρ[j]? = some (.dd a m) → False := fun {j m} h => by
    obtain ⟨_, e2, _⟩ := S.dds j a m h
    rw [hn] at e2; cases e2
  have oo : ∀ b, OO (fun b => O0 b ∨ b = a) (σ.set i (some (.ref a))) (ρ.set i (.dd a [])) b → OO (fun b => O0 b ∨ b = a) (σ.set i (some (.ref a))) (ρ.set i .un) b := fun b z => by
    rcases z with z | ⟨j, ps, z1, z2⟩
    · exact .inl z
    · exact .inr ⟨j, ps, ne (fun _ _ z => nomatch z) z1, z2⟩
  refine ⟨by rw [List.length_set, List.length_set]; exact S.len, S1.same, S1.all0, fun j ps h => ?_, fun j k b ps qs g1 g2 g3 g4 => S1.dis j k b ps qs (ne (fun _ _ z => nomatch z) g1) (ne (fun _ _ z => nomatch z) g2) g3 g4, fun j p h => ?_, fun j b h => S1.exs j b (ne (fun _ _ z => nomatch z) h), fun j b m h => ?_⟩
  · obtain ⟨b, vs, f1, f2, f3, f4, f5⟩ := S1.own j ps (ne (fun _ _ z => nomatch z) h)
    exact ⟨b, vs, f1, f2, f3, f4, f5.less oo⟩
  · obtain ⟨v, f1, f2⟩ := S1.val j p (ne (fun _ _ z => nomatch z) h)
    exact ⟨v, f1, f2.less oo⟩
  · by_cases e : i = j
    · subst e
      rw [List.getElem?_set_self hi] at h
      cases h
      refine ⟨List.getElem?_set_self (by rw [S.len]; exact hi), upd_same, .inr rfl, S.same.free hn, fun j2 l2 h2 => ?_, nt⟩
      by_cases e2 : i = j2
      · exact e2.symm
      · rw [List.getElem?_set_ne e2] at h2
        exact absurd h2 fun z => no z
    · rw [List.getElem?_set_ne e] at h
      obtain ⟨f1, f2, f3, f4, f5, f6⟩ := S.dds j b m h
      have ba : b ≠ a := fun z => by rw [z] at h; exact no h
      refine ⟨by rw [List.getElem?_set_ne e]; exact f1, by rw [upd_ne ba]; exact f2, .inl f3, f4, fun j2 l2 h2 => ?_, nt⟩
      by_cases e2 : i = j2
      · subst e2
        rw [List.getElem?_set_self hi] at h2
        cases h2
        exact absurd rfl ba
      · rw [List.getElem?_set_ne e2] at h2
        exact f5 j2 l2 h2
end
theorem pairI {K : PySem.W.Frag} {H : Hp} {O : Addr → Prop} {v : V} {x y : Int} (r : Rep K H O v (.tup [.int x, .int y])) : ∃ b, v = .ref b ∧ H b = some (.tup ((keyD (x, y)).map L2.kV)) := by
  cases r with
  | tup h rs =>
    rename_i a xs
    cases rs with
    | cons r1 rs =>
      cases rs with
      | cons r2 rs =>
        cases rs
        cases r1
        cases r2
        rcases h with ⟨h, _⟩ | h
        · exact ⟨_, rfl, h⟩
        · obtain ⟨_, _, _, _, _, _, _, _, n⟩ := h
          exact absurd rfl n
def asKey : PV → Option (Int × Int)
  | .tup [.int x, .int y] => some (x, y)
  | _ => none
def asInt : PV → Option Int
  | .int d => some d
  | _ => none
theorem asKey_of {p : PV} {k : Int × Int} (h : asKey p = some k) : p = .tup [.int k.1, .int k.2] := by
  unfold asKey at h
  split at h
  · cases h; rfl
  · cases h
theorem asInt_of {p : PV} {d : Int} (h : asInt p = some d) : p = .int d := by
  unfold asInt at h
  split at h
  · cases h; rfl
  · cases h
/-- d.get(k, z) -/
def eDGet (i : Nat) (fk fz : Rho → R PV) : Rho → R PV := fun ρ => match ρ[i]? with
  | some (.dd _ l) => (fk ρ).bind fun k => (fz ρ).bind fun z => match asKey k, asInt z with
    | some q, some d => .ok (.int ((valD l q).getD d))
    | _, _ => .stuck
  | _ => .stuck
/-- d[k] = v -/
def sDPut' (i : Nat) (fv fk : Rho → R PV) : Rho → Out := fun ρ => match ρ[i]? with
  | some (.dd a l) => sE fv (fun v => sE fk fun k ρ => match asKey k, asInt v with
    | some q, some d => if l.length < 1000000 then .next (ρ.set i (.dd a (putD l q d))) else .stuck
    | _, _ => .stuck) ρ
  | _ => .stuck
def kP (k : Int × Int) : PV := .tup [.int k.1, .int k.2]
section
variable {X : Cx} {W : WX} {nw : Bool} {e o ix : Expr} {pos : Pos} {i : Nat} {fk fz fv : Rho → R PV}
theorem e_dget {ez : Expr} {apos : Pos} (hu : X.A.units + 64 < cLine) (ho : PE X o (tVar i)) (hk : EJ X W .s e fk) (hz : EJ X W .s ez fz) (m : M2 X o "get" apos e ez pos := by exact ⟨rfl, by rfl, by rfl, by rfl⟩) : EJ X W .s (.Call (.Attribute o "get" apos) [e, ez] [] pos) (eDGet i fk fz) := by
  refine pe_imp (pe_dget2 (by omega) ho hk hz m) fun σ H Q ⟨H0, O0, ρ, S, G⟩ => ?_
  unfold eDGet at G
  cases hi : ρ[i]? with
  | none => rw [hi] at G; exact G.elim
  | some s =>
    rw [hi] at G
    cases s with
    | dd a l =>
      dsimp only at G
      obtain ⟨e1, e2, e3, e4, e5⟩ := S.dds i a l hi
      refine ⟨.ref a, e1, a, rfl, .inr ⟨encD l, .inl e2⟩, H0, O0, ρ, S, ?_⟩
      cases hfk : fk ρ with
      | stuck => rw [hfk] at G; exact G.elim
      | exc c => rw [hfk] at G; exact G
      | ok k =>
        rw [hfk, R.bind_ok] at G
        intro y H1 s1 r1
        refine ⟨H0, O0, ρ, S.step s1, ?_⟩
        cases hfz : fz ρ with
        | stuck => rw [hfz] at G; exact G.elim
        | exc c => rw [hfz] at G; exact fun C H2 s2 eC => G C H2 (s1.trans s2) eC
        | ok z =>
          rw [hfz, R.bind_ok] at G
          intro z' H2 s2 r2
          cases hak : asKey k with
          | none => rw [hak] at G; exact G.elim
          | some q =>
            cases haz : asInt z with
            | none => rw [hak, haz] at G; exact G.elim
            | some d =>
              rw [hak, haz] at G
              dsimp only at G
              have r1' : Rep X.K H1 (OO O0 σ ρ) y k := r1
              rw [asKey_of hak] at r1'
              obtain ⟨b, rfl, hb⟩ := pairI r1'
              have rz : Rep X.K H2 (OO O0 σ ρ) z' z := r2
              rw [asInt_of haz] at rz
              cases rz
              refine ⟨_, DGet.t (s2 _ _ (s1 _ _ e2)) (s2 _ _ hb), ?_⟩
              rw [val_enc]
              have q := G (((valD l q).map V.int).getD (.int d)) H2 (s1.trans s2)
              refine q ?_
              cases valD l _ <;> exact .int _
    | un => exact G.elim
    | val p => exact G.elim
    | own p => exact G.elim
    | ex p => exact G.elim
theorem s_dput {p2 : Pos} (hu : X.A.units + 64 < cLine) (ho : PE X o (tVar i)) (hk : EJ X W .s ix fk) (hv : EJ X W .s e fv) (hs : swapsWith e (some (.Subscript o ix p2)) pos.line X.env = pure false := by rfl) : SJ X W nw (.Assign [.Subscript o ix p2] e pos) (sDPut' i fv fk) := by
  refine ps_imp (ps_dput (by omega) ho hk hv hs) fun D σ H ⟨H0, O0, ρ, S, G⟩ => ?_
  unfold sDPut' at G
  cases hi : ρ[i]? with
  | none => rw [hi] at G; exact G.elim
  | some s =>
    rw [hi] at G
    cases s with
    | dd a l =>
      dsimp only at G
      obtain ⟨e1, e2, e3, e4, e5⟩ := S.dds i a l hi
      refine ⟨H0, O0, ρ, S, got_e S G fun v v' H1 s1 r1 G => ?_⟩
      have S1 := S.step s1
      refine ⟨.ref a, e1, H0, O0, ρ, S1, got_e S1 (GotS.later (Kept.same s1) G) fun k y H2 s2 r2 G => ?_⟩
      cases hak : asKey k with
      | none => rw [hak] at G; exact G.elim
      | some q =>
        cases hav : asInt v with
        | none => rw [hak, hav] at G; exact G.elim
        | some d =>
          rw [hak, hav] at G
          dsimp only at G
          split at G
          · rename_i hl
            have r2' : Rep X.K H2 (OO O0 σ ρ) y k := r2
            rw [asKey_of hak] at r2'
            obtain ⟨b, rfl, hb⟩ := pairI r2'
            have rv : Rep X.K H1 (OO O0 σ ρ) v' v := r1
            rw [asInt_of hav] at rv
            cases rv
            have S2 := S1.step s2
            refine ⟨a, _, rfl, DPut.t (s2 _ _ (s1 _ _ e2)) hb (by rw [enc_len, sizeLine_eq]; omega), ?_⟩
            rw [put_enc]
            exact G σ _ (S2.putDd (putD l q d) hi) ((Kept.same s2).trans (kept_put S2 hi))
          · exact G.elim
    | un => exact G.elim
    | val p => exact G.elim
    | own p => exact G.elim
    | ex p => exact G.elim
end
end PL
set_option Elab.async false
set_option linter.all false
set_option maxRecDepth 100000
set_option autoImplicit false
namespace PL
open PySem PySem.Spec L2
open PyProof.Rows hiding St
section
variable {K : PySem.W.Frag} {H0 H H' : Hp} {O0 : Addr → Prop} {σ : St} {ρ : Rho}
/-- a new list goes into a slot -/
theorem StR.adopt {a : Addr} (S : StR K H0 (fun d => O0 d ∨ d = a) H σ ρ) {i : Nat} {vs : List V} {ps : List PV} (h0 : H0 a = none) (hO : ¬ O0 a) (ha : H a = some (.lst vs)) (hr : Reps K H (OO (fun d => O0 d ∨ d = a) σ ρ) vs ps) :
    StR K H0 O0 H (σ.set i (some (.ref a))) (ρ.set i (.own ps)) ∧ ∀ d, OO O0 (σ.set i (some (.ref a))) (ρ.set i (.own ps)) d → OO (fun d => O0 d ∨ d = a) σ ρ d := by
  have less : ∀ d, OO O0 (σ.set i (some (.ref a))) (ρ.set i (.own ps)) d → OO (fun d => O0 d ∨ d = a) σ ρ d := fun d z => by
    rcases z with z | ⟨j, qs, h1, h2⟩
    · exact .inl (.inl z)
    · by_cases e : i = j
      · subst e
        by_cases hl : i < σ.length
        · rw [List.getElem?_set_self hl] at h2; cases h2; exact .inl (.inr rfl)
        · rw [List.getElem?_eq_none (by rw [List.length_set]; omega)] at h2; cases h2
      · rw [List.getElem?_set_ne e] at h1 h2
        exact .inr ⟨j, qs, h1, h2⟩
  refine ⟨⟨by rw [List.length_set, List.length_set, S.len], S.same, fun d z => S.all0 d (.inl z), fun j qs h => ?_, fun j k b qs rs h1 h2 h3 h4 => ?_, fun j p h => ?_, exs_set S.len S.exs fun _ z => (nomatch z), dds_set (fun j d l e => ?_) fun _ _ z => (nomatch z)⟩, less⟩
  · by_cases e : i = j
    · subst e
      by_cases hl : i < ρ.length
      · rw [List.getElem?_set_self hl] at h; cases h
        exact ⟨a, vs, by rw [List.getElem?_set_self (by rw [S.len]; exact hl)], ha, h0, hO, hr.less less⟩
      · rw [List.getElem?_eq_none (by rw [List.length_set]; omega)] at h; cases h
    · rw [List.getElem?_set_ne e] at h
      obtain ⟨b, ws, e1, e2, e3, e5, e4⟩ := S.own j qs h
      exact ⟨b, ws, by rw [List.getElem?_set_ne e]; exact e1, e2, e3, fun z => e5 (.inl z), e4.less less⟩
  · have other : ∀ {j : Nat} {qs : List PV} {b : Addr}, i ≠ j → (ρ.set i (.own ps))[j]? = some (.own qs) → (σ.set i (some (.ref a)))[j]? = some (some (.ref b)) → b ≠ a := fun {j qs b} e h1 h3 z => by
      rw [List.getElem?_set_ne e] at h1 h3
      obtain ⟨c, ws, e1, e2, _, e5, _⟩ := S.own j qs h1
      rw [h3] at e1; cases e1
      exact e5 (.inr z)
    have self : ∀ {j : Nat} {b : Addr}, i = j → (σ.set i (some (.ref a)))[j]? = some (some (.ref b)) → b = a := fun {j b} e h3 => by
      subst e
      by_cases hl : i < σ.length
      · rw [List.getElem?_set_self hl] at h3; cases h3; rfl
      · rw [List.getElem?_eq_none (by rw [List.length_set]; omega)] at h3; cases h3
    by_cases e1 : i = j
    · by_cases e2 : i = k
      · exact e1.symm.trans e2
      · exact absurd (self e1 h3) (other e2 h2 h4)
    · by_cases e2 : i = k
      · exact absurd (self e2 h4) (other e1 h1 h3)
      · rw [List.getElem?_set_ne e1] at h1 h3
        rw [List.getElem?_set_ne e2] at h2 h4
        exact S.dis j k b qs rs h1 h2 h3 h4
  · by_cases e : i = j
    · subst e
      by_cases hl : i < ρ.length
      · rw [List.getElem?_set_self hl] at h; cases h
      · rw [List.getElem?_eq_none (by rw [List.length_set]; omega)] at h; cases h
    · rw [List.getElem?_set_ne e] at h
      obtain ⟨w, e1, e2⟩ := S.val j p h
      exact ⟨w, by rw [List.getElem?_set_ne e]; exact e1, e2.less less⟩
  · obtain ⟨e1, e2, e3, e4, e5, e6⟩ := S.dds j d l e
    exact ⟨e1, e2, e3.resolve_right fun z => (by rw [z, ha] at e2; cases e2), e4, e5, fun b xs o => e6 b xs (.inl o)⟩
end
def GotXF (K : PySem.W.Frag) (O0 : Addr → Prop) (σ : St) (ρ : Rho) (b : Nat) (H0 H : Hp) (Q : VK) : R (PV × List PV) → Prop
  | .ok (.lst ps, c) => ∀ (a : Addr) (vs : List V) H', StR K H0 (fun d => O0 d ∨ d = a) H' σ (ρ.set b (.own c)) → KeptB b σ H H' → H a = none → H' a = some (.lst vs) → Reps K H' (OO (fun d => O0 d ∨ d = a) σ ρ) vs ps → Q (.ref a) H'
  | _ => False
def tXF (K : PySem.W.Frag) (b : Nat) (f : Rho → R (PV × List PV)) : TE := fun σ H Q => ∃ H0 O0 ρ c, StR K H0 O0 H σ ρ ∧ ρ[b]? = some (.own c) ∧ GotXF K O0 σ ρ b H0 H Q (f ρ)
theorem lcF_run {b : Nat} {wi : Rho → R (List PV)} {tgt : PV → Rho → Option Rho} {elt : Rho → R (PV × List PV)} {vs ts : List Nat} (hts : ∀ i ∈ ts, i ∈ vs) {K : PySem.W.Frag} {mg : Str → Option Value} :
    ∀ σ H Q, tXF K b (xLc b vs wi tgt elt) σ H Q → tLc (tI K mg WF wi) (tG K ts tgt) (tT K mg WF cYes) (tX K b elt) vs σ H Q := by
  intro σ H Q ⟨H0, O0, ρ, c, S, hb, G⟩
  refine ⟨H0, O0, ρ, S, ?_⟩
  revert G
  unfold xLc
  split
  · rename_i hn
    rw [hb]
    show GotXF K O0 σ ρ b H0 H Q ((wi ρ).bind fun items => if items.length ≤ sizeLine then (match lcGoX b tgt elt (wipeR ρ vs) c items with
      | .ok (qs, c2) => .ok (.lst qs, c2)
      | _ => .stuck) else .stuck) → _
    cases wi ρ with
    | stuck => exact False.elim
    | exc c => exact False.elim
    | ok items =>
      rw [R.bind_ok]
      split
      · rename_i hz
        intro G J H1 s1 ok D hD
        have hbv := notOwn_of hn hb
        cases hq : lcGoX b tgt elt (wipeR ρ vs) c items with
        | stuck => rw [hq] at G; exact G.elim
        | exc c => rw [hq] at G; exact G.elim
        | ok qc =>
          obtain ⟨qs, cf⟩ := qc
          rw [hq] at G
          have S1 := S.step s1
          obtain ⟨a, vsa, ea, ha1, _, na0, _⟩ := S1.own b c hb
          have hDa : D ≠ a := fun z => by rw [z, ha1] at hD; cases hD
          obtain ⟨S2, l2⟩ := wipe_st S1 vs
          have hH0 : H0 D = none := S1.same.free hD
          have hbw : (wipeR ρ vs)[b]? = some (.own c) := by rw [wipeR_get ρ vs b hbv]; exact hb
          have eaw : (wipe σ vs)[b]? = some (some (.ref a)) := by rw [wipe_get, if_neg hbv]; exact ea
          have S3 : StR K H0 (fun b => O0 b ∨ b = D) (upd H1 D (.lst [])) (wipe σ vs) ((wipeR ρ vs).set b (.own c)) := by rw [set_selfB hbw]; exact forbid S2 hD
          have OD : OO (fun b => O0 b ∨ b = D) (wipe σ vs) (wipeR ρ vs) D := .inl (.inr rfl)
          have OA : OO (fun b => O0 b ∨ b = D) (wipe σ vs) (wipeR ρ vs) a := .inr ⟨b, c, hbw, eaw⟩
          have oo : ∀ d, OO (fun b => O0 b ∨ b = D) (wipe σ vs) (wipeR ρ vs) d → OO O0 σ ρ d ∨ d = D := fun d z => by
            rcases z with (z | z) | z
            · exact .inl (.inl z)
            · exact .inr z
            · exact .inl (l2 d (.inr z))
          have oA : OO O0 σ ρ a := .inr ⟨b, c, hb, ea⟩
          refine ⟨fun i m Hc => m = items.length - i ∧ i ≤ items.length ∧ KeptA a H1 Hc ∧ ∃ cc, StR K H0 (fun b => O0 b ∨ b = D) Hc (wipe σ vs) ((wipeR ρ vs).set b (.own cc)) ∧
              ∃ ws ps rs, Hc D = some (.lst ws) ∧ Reps K Hc (OO (fun b => O0 b ∨ b = D) (wipe σ vs) (wipeR ρ vs)) ws ps ∧ ps.length ≤ i ∧ lcGoX b tgt elt (wipeR ρ vs) cc (items.drop i) = .ok (rs, cf) ∧ qs = ps ++ rs,
            ⟨items.length, by simp, Nat.zero_le _, KeptA.same (same_new hD), c, S3, [], [], qs, upd_same, .nil, Nat.zero_le _, by rw [List.drop_zero]; exact hq, rfl⟩, ?_⟩
          rintro i m Hc ⟨rfl, hi, sc, cc, Sc, ws, ps, rs, hDc, rc, hpl, hgo, hqs⟩
          have hbc : ((wipeR ρ vs).set b (.own cc))[b]? = some (.own cc) := set_has hbw
          have kept : Kept (OO O0 σ ρ) H1 (OO (fun b => O0 b ∨ b = D) (wipe σ vs) ((wipeR ρ vs).set b (.own cc))) Hc := fun d o h n => ⟨sc d o h fun z => n (by rw [z]; exact oA), fun z => (oo d ((oo_box hbw).mp z)).elim n (ne_of_none h hD)⟩
          have alloc : ∀ d, OO (fun b => O0 b ∨ b = D) (wipe σ vs) ((wipeR ρ vs).set b (.own cc)) d → Hc d ≠ none := fun d z => Sc.there z
          by_cases hlt : i < items.length
          · refine .inr ⟨ok.go i Hc _ kept hlt, _, fun H' n => ⟨items.length - (i + 1), by omega, rfl, hlt, n⟩, fun x Hy hy => ?_⟩
            have hg : items[i]? = some items[i] := List.getElem?_eq_getElem hlt
            obtain ⟨sy, ry⟩ := ok.yld i Hc _ x Hy _ kept alloc hg hy
            have hdr : items.drop i = items[i] :: items.drop (i + 1) := List.drop_eq_getElem_cons hlt
            rw [hdr] at hgo
            refine ⟨H0, _, (wipeR ρ vs).set b (.own cc), items[i], Sc.step sy, ry, ?_⟩
            unfold lcGoX at hgo
            cases ht : tgt items[i] ((wipeR ρ vs).set b (.own cc)) with
            | none => rw [ht] at hgo; cases hgo
            | some ρ1 =>
              rw [ht] at hgo
              intro σ2 Sg lg eg kg
              have wb : wipe σ2 vs = wipe σ vs := wipe_back eg fun j hj => (kg j fun z => hj (hts j z)).1
              refine ⟨wb, H0, _, ρ1, Sg, ?_⟩
              intro H3 s3
              rw [if_pos rfl]
              have kb := kg b fun z => hbv (hts b z)
              have hb1 : ρ1[b]? = some (.own cc) := by rw [kb.2]; exact hbc
              have e2 : σ2[b]? = some (some (.ref a)) := by rw [kb.1]; exact eaw
              have ho : ownB b ρ1 = true := by unfold ownB; rw [hb1]
              refine ⟨H0, _, ρ1, cc, Sg.step s3, hb1, ?_⟩
              have hgo : (match ownB b ρ1, elt ρ1 with
                | true, .ok (q, c1) => (match lcGoX b tgt elt (wipeR ρ vs) c1 (items.drop (i + 1)) with
                  | .ok (qs, c2) => .ok (q :: qs, c2)
                  | _ => .stuck)
                | _, _ => .stuck) = (.ok (rs, cf) : R (List PV × List PV)) := hgo
              rw [ho] at hgo
              cases hel : elt ρ1 with
              | stuck => rw [hel] at hgo; cases hgo
              | exc c => rw [hel] at hgo; cases hgo
              | ok qc1 =>
                obtain ⟨q, c1⟩ := qc1
                rw [hel] at hgo
                have hgo : (match lcGoX b tgt elt (wipeR ρ vs) c1 (items.drop (i + 1)) with
                  | .ok (qs, c2) => .ok (q :: qs, c2)
                  | _ => .stuck) = (.ok (rs, cf) : R (List PV × List PV)) := hgo
                cases hre : lcGoX b tgt elt (wipeR ρ vs) c1 (items.drop (i + 1)) with
                | stuck => rw [hre] at hgo; cases hgo
                | exc c => rw [hre] at hgo; cases hgo
                | ok rc' =>
                  obtain ⟨rs', c2⟩ := rc'
                  rw [hre] at hgo
                  cases hgo
                  intro y H4 S4 k4 r4
                  have s03 := sy.trans s3
                  have k4 : KeptA a H3 H4 := k4.a e2
                  have kc4 : KeptA a Hc H4 := (KeptA.same s03).trans k4
                  have hD4 : H4 D = some (.lst ws) := kc4 D _ hDc hDa
                  refine ⟨ws, hD4, by rw [rc.length]; omega, ?_⟩
                  have nD : ∀ {d : Addr} {o : HO} {O : Addr → Prop}, O D → H4 d = some o → ¬ O d → upd H4 D (.lst (ws ++ [y])) d = some o ∧ ¬ O d := fun {d o O} hO h n => ⟨by rw [upd_ne (fun z => n (by rw [z]; exact hO))]; exact h, n⟩
                  have S5 := (wipe_st S4 vs).1
                  rw [wb, wipeR_back (ρ := ρ) hbv (by rw [← Sg.len, eg, wipe_length, S1.len]) (fun j hj hjb => by rw [(kg j fun z => hj (hts j z)).2, List.getElem?_set_ne (Ne.symm hjb), wipeR_get ρ vs j hj])] at S5
                  refine ⟨fun d o h n => ?_, c1, bump S5 (.inr rfl) hH0 hD4, ws ++ [y], ps ++ [q], rs', upd_same, ?_, by rw [List.length_append]; simp; omega, hre, by rw [hqs, List.append_assoc]; rfl⟩
                  · rw [upd_ne (ne_of_none h hD)]; exact kc4 _ _ (sc _ _ h n) n
                  · refine Reps.append (rc.mono fun d o h n => nD OD (kc4 d o h fun z => n (by rw [z]; exact OA)) n) (.cons ?_ .nil)
                    refine r4.mono fun d o h n => ?_
                    have hd : d ≠ D := fun z => n (by rw [z]; exact .inl (.inr rfl))
                    refine ⟨by rw [upd_ne hd]; exact h, fun z => ?_⟩
                    rcases z with z | ⟨j, us, z1, z2⟩
                    · exact n (.inl z)
                    · have hj : j ∉ vs := fun hj => by
                        have z4 : (wipe σ vs)[j]? = some (some (.ref d)) := z2
                        rw [wipe_get, if_pos hj] at z4
                        split at z4 <;> cases z4
                      have kj := kg j fun z => hj (hts j z)
                      by_cases hjb : j = b
                      · subst hjb
                        exact n (.inr ⟨j, cc, hb1, by rw [kj.1]; exact z2⟩)
                      · exact n (.inr ⟨j, us, by rw [kj.2, List.getElem?_set_ne (Ne.symm hjb)]; exact z1, by rw [kj.1]; exact z2⟩)
          · have e : i = items.length := by omega
            subst e
            rw [List.drop_length] at hgo
            cases hgo
            rw [List.append_nil] at hqs
            subst hqs
            have kB : KeptB b σ H1 Hc := sc.b ea
            have S1' : StR K H0 (fun d => O0 d ∨ d = D) (upd H1 D (.lst ws)) σ ρ := forbid S1 hD
            have kD : KeptB b σ (upd H1 D (.lst ws)) Hc := fun d o h n => by
              by_cases e : d = D
              · rw [e, upd_same] at h
                rw [e, hDc, h]
              · rw [upd_ne e] at h
                exact kB d o h n
            obtain ⟨S9, o9⟩ := unwipe hn hb (fun d z => z) S1' Sc kD
            refine .inl ⟨ok.stop _ Hc _ kept (Nat.le_refl _), G D _ _ S9 ((KeptB.same s1).trans kB) (s1.free hD) hDc (rc.less fun d z => (oo_box hbw).mp (o9 d ?_))⟩
            exact (oo_box (c' := c) hb).mp (by rw [set_selfB hb]; exact z)
      · exact False.elim
  · exact False.elim
/-- a range whose bound changes the list -/
def xRng (f : Rho → R (PV × List PV)) : Rho → R (List PV × List PV) := fun ρ => match f ρ with
  | .ok (.int n, c) => if inR n = true then .ok (rngL 0 n.toNat, c) else .stuck
  | _ => .stuck
def GotIX (K : PySem.W.Frag) (O0 : Addr → Prop) (σ : St) (ρ : Rho) (b : Nat) (H0 H : Hp) (Q : It → Hp → Prop) : R (List PV × List PV) → Prop
  | .ok (items, c) => ∀ J H', StR K H0 O0 H' σ (ρ.set b (.own c)) → KeptB b σ H H' → (∀ O, ItOk K J items O H') → Q J H'
  | _ => False
def tIX (K : PySem.W.Frag) (b : Nat) (f : Rho → R (List PV × List PV)) : TI := fun σ H Q => ∃ H0 O0 ρ c, StR K H0 O0 H σ ρ ∧ ρ[b]? = some (.own c) ∧ GotIX K O0 σ ρ b H0 H Q (f ρ)
section
variable {X : Cx} {W : WX} {nw : Bool} {e o ix tg it : Expr} {pos p : Pos} {b : Nat} {f : Rho → R (PV × List PV)}
theorem ix_rng1 (mg : X.mg "range" = none) (hg : Gl X "range") (ha : XJ X b e f) (hs : starEach [e] X.env = [(false, eval e X.env)] := by rfl) (hs2 : starEach [e] X.env = (false, eval e X.env) :: starEach [] X.env := by rfl) : PI X tg (.Call (.Name "range" p) [e] [] pos) (tIX X.K b (xRng f)) := by
  refine pi_imp (pi_range1 hg mg (pa_cons ha pa_nil hs2) hs) fun σ H Q ⟨H0, O0, ρ, c, S, hb, G⟩ => ⟨H0, O0, ρ, c, S, hb, ?_⟩
  revert G
  unfold xRng
  cases f ρ with
  | stuck => exact False.elim
  | exc c => exact False.elim
  | ok x =>
    obtain ⟨q, c1⟩ := x
    cases q with
    | int n =>
      intro G v H' S' k r
      have G : GotIX X.K O0 σ ρ b H0 H Q (if inR n = true then .ok (rngL 0 n.toNat, c1) else .stuck) := G
      by_cases hz : inR n = true
      · rw [if_pos hz] at G
        cases r
        obtain ⟨z1, z2⟩ := inR_iff.mp hz
        exact ⟨_, rfl, z1, z2, G _ H' S' k fun O => rng_it _ _ _ _⟩
      · rw [if_neg hz] at G; exact G.elim
    | _ => exact False.elim
def xLcR (b : Nat) (vs : List Nat) (wi : Rho → R (List PV × List PV)) (tgt : PV → Rho → Option Rho) (elt : Rho → R (PV × List PV)) : Rho → R (PV × List PV) := fun ρ => match wi ρ with
  | .ok (items, c) => xLc b vs (fun _ => .ok items) tgt elt (ρ.set b (.own c))
  | _ => .stuck
theorem lcR_run {wi : Rho → R (List PV × List PV)} {tgt : PV → Rho → Option Rho} {elt : Rho → R (PV × List PV)} {vs ts : List Nat} (hts : ∀ i ∈ ts, i ∈ vs) {K : PySem.W.Frag} {mg : Str → Option Value} :
    ∀ σ H Q, tXF K b (xLcR b vs wi tgt elt) σ H Q → tLc (tIX K b wi) (tG K ts tgt) (tT K mg WF cYes) (tX K b elt) vs σ H Q := by
  intro σ H Q ⟨H0, O0, ρ, c, S, hb, G⟩
  refine ⟨H0, O0, ρ, c, S, hb, ?_⟩
  revert G
  unfold xLcR
  cases wi ρ with
  | stuck => exact False.elim
  | exc c => exact False.elim
  | ok x =>
    obtain ⟨items, c1⟩ := x
    intro G J H' S' k hJ
    have G : GotXF K O0 σ ρ b H0 H Q (xLc b vs (fun _ => .ok items) tgt elt (ρ.set b (.own c1))) := G
    obtain ⟨H0', O0', ρ', S'', G''⟩ := lcF_run (mg := mg) (b := b) (wi := fun _ => .ok items) (tgt := tgt) (elt := elt) hts σ H' Q ⟨H0, O0, ρ.set b (.own c1), c1, S', set_has hb, by
      revert G
      cases xLc b vs (fun _ => .ok items) tgt elt (ρ.set b (.own c1)) with
      | stuck => exact False.elim
      | exc c => exact False.elim
      | ok y =>
        obtain ⟨q, c2⟩ := y
        cases q with
        | lst ps =>
          intro G a vs H2 S2 k2 ha ha2 r
          rw [List.set_set] at S2
          refine G a vs H2 S2 (k.trans k2) ?_ ha2 (r.less fun d z => (oo_box (c' := c1) hb).mpr z)
          cases q : H a with
          | none => rfl
          | some o =>
            by_cases e : σ[b]? = some (some (.ref a))
            · obtain ⟨a', us, g1, g2, _⟩ := S'.own b _ (set_has hb)
              rw [e] at g1; cases g1
              rw [ha] at g2; cases g2
            · have := k a o q e
              rw [ha] at this; cases this
        | _ => exact False.elim⟩
    exact G'' J H' (Same.refl _) (hJ _)
def sSetXO (b i : Nat) (f : Rho → R (PV × List PV)) : Rho → Out := fun ρ => if ownB b ρ = true then (match f ρ with
  | .ok (.lst ps, c) => .next ((ρ.set b (.own c)).set i (.own ps))
  | _ => .stuck) else .stuck
theorem s_setLcR {i : Nat} {y : Str} {py : Pos} {scope : Scope} {own : List (Str × Nat)} {spos : Pos} {wi : Rho → R (List PV × List PV)} {tgt : PV → Rho → Option Rho} {elt : Rho → R (PV × List PV)} {ts : List Nat} (hts : ∀ i ∈ ts, i ∈ own.map (·.2)) (hc : X.calm = true) (hN : X.N.Nodup) (hy : X.N[i]? = some y) (hyl : X.env.scope.names.lookup y = some .local)
    (hsw : swapsWith (.ListComp e [⟨tg, it, [], 0⟩] scope pos) (some (.Name y py)) spos.line X.env = pure true) (hi : PI X tg it (tIX X.K b wi)) (ok : BlkOk X.N X.env.scope scope own)
    (hg : ∀ (s : Shared) (H : Hp) (C : Addr) (cl : List (Str × Addr)) (fp : List Addr), GJ (X.blk s H scope (compEnvC scope cl C X.env) fp) tg ts tgt)
    (he : ∀ (s : Shared) (H : Hp) (C : Addr) (cl : List (Str × Addr)) (fp : List Addr), XJ (X.blk s H scope (compEnvC scope cl C X.env) fp) b e elt)
    (hs : ∀ x, foldedSetIterable it X.env x = pure x := by intro _; rfl) : SJ X W nw (.Assign [.Name y py] (.ListComp e [⟨tg, it, [], 0⟩] scope pos) spos) (sSetXO b i (xLcR b (own.map (·.2)) wi tgt elt)) := by
  refine ps_imp (ps_setLc (g := tG X.K ts tgt) (tt := tT X.K X.mg WF cYes) (te := tX X.K b elt) hc hN hy hyl hsw hi ok hg (fun s H C cl fp => c_nil (X := X.blk s H scope (compEnvC scope cl C X.env) fp) (W := WF)) he hs) fun D σ H ⟨H0, O0, ρ, S, G⟩ => ?_
  unfold sSetXO at G
  by_cases ho : ownB b ρ = true
  · rw [if_pos ho] at G
    obtain ⟨c, hb⟩ := ownB_of ho
    refine lcR_run (mg := X.mg) hts σ H _ ⟨H0, O0, ρ, c, S, hb, ?_⟩
    revert G
    cases xLcR b (own.map (·.2)) wi tgt elt ρ with
    | stuck => exact False.elim
    | exc c => exact False.elim
    | ok x =>
      obtain ⟨q, c1⟩ := x
      cases q with
      | lst ps =>
        intro G a vs H' S' k ha ha2 r
        have h0 : H0 a = none := by
          cases q : H0 a with
          | none => rfl
          | some o => have := S.same a o q; rw [ha] at this; cases this
        obtain ⟨S2, l2⟩ := S'.adopt (i := i) h0 (fun z => S.all0 a z ha) ha2 (r.less fun d z => (oo_box (c' := c1) hb).mp z)
        refine G _ H' S2 fun d o h n => ?_
        have kd := k.kept (c' := c1) hb d o h n
        refine ⟨kd.1, fun z => ?_⟩
        rcases l2 d z with (z | z) | z
        · exact n (.inl z)
        · rw [z, ha] at h; cases h
        · exact n ((oo_box (c' := c1) (O0 := O0) hb).mp (.inr z))
      | _ => exact False.elim
  · rw [if_neg ho] at G; exact G.elim
/-- y[k] = e, where e changes the list in slot b -/
def sSetIX (b i : Nat) (f : Rho → R (PV × List PV)) (fi : Rho → R PV) : Rho → Out := fun ρ => if ownB b ρ = true then (match f ρ with
  | .ok (p, c) => (match (ρ.set b (.own c))[i]? with
    | some (.own ps) => (match fi (ρ.set b (.own c)) with
      | .ok q => (match setP ps p q with
        | .ok qs => .next ((ρ.set b (.own c)).set i (.own qs))
        | _ => .stuck)
      | _ => .stuck)
    | _ => .stuck)
  | _ => .stuck) else .stuck
theorem s_setIX {i : Nat} {fi : Rho → R PV} {p2 : Pos} (ho : PE X o (tVar i)) (he : XJ X b e f) (hi : EJ X W .s ix fi)
    (hasg : ∀ v, assign (.Subscript o ix p2) X.env v = (do
      let ov ← holding [v] (eval o X.env)
      let iv ← holding [v, ov] (eval ix X.env)
      standAt p2
      holding [v, ov, iv] (setItem ov iv v)
      release [v, ov, iv] []) := by intro _; rfl)
    (hs : swapsWithSole [.Subscript o ix p2] e pos.line X.env = pure false := by rfl) (hw : swappedStores [.Subscript o ix p2] e X.env = pure none := by rfl)
    (h1 : (assignEach [.Subscript o ix p2] X.env).map (·.2) = [assign (.Subscript o ix p2) X.env] := by rfl) : SJ X W nw (.Assign [.Subscript o ix p2] e pos) (sSetIX b i f fi) := by
  refine ps_imp (ps_asg he (pg_sub ho hi set_list hasg) hs hw h1) fun D σ H ⟨H0, O0, ρ, S, G⟩ => ?_
  unfold sSetIX at G
  by_cases hob : ownB b ρ = true
  · rw [if_pos hob] at G
    obtain ⟨c, hb⟩ := ownB_of hob
    refine ⟨H0, O0, ρ, c, S, hb, ?_⟩
    revert G
    cases f ρ with
    | stuck => exact False.elim
    | exc c => exact False.elim
    | ok x =>
      obtain ⟨p, c1⟩ := x
      intro G v H1 S1 k1 r1
      have G : GotS X.K X.mg W nw H0 O0 σ ρ H D (match (ρ.set b (.own c1))[i]? with
        | some (.own ps) => (match fi (ρ.set b (.own c1)) with
          | .ok q => (match setP ps p q with
            | .ok qs => .next ((ρ.set b (.own c1)).set i (.own qs))
            | _ => .stuck)
          | _ => .stuck)
        | _ => .stuck) := G
      have r1 : Rep X.K H1 (OO O0 σ (ρ.set b (.own c1))) v p := r1.less fun d z => (oo_box hb).mp z
      have kk : Kept (OO O0 σ ρ) H (OO O0 σ (ρ.set b (.own c1))) H1 := k1.kept hb
      generalize hρ1 : ρ.set b (.own c1) = ρ1 at S1 G r1 kk
      cases hi1 : ρ1[i]? with
      | none => rw [hi1] at G; exact G.elim
      | some sl =>
        rw [hi1] at G
        cases sl with
        | own ps =>
          dsimp only at G
          obtain ⟨a, vs, e1, e2, e3, e4, e5⟩ := S1.own i ps hi1
          refine ⟨.ref a, e1, H0, O0, ρ1, S1, ?_⟩
          cases hfi : fi ρ1 with
          | stuck => rw [hfi] at G; exact G.elim
          | exc c => rw [hfi] at G; exact G.elim
          | ok q =>
            rw [hfi] at G
            intro w H2 s2 r2
            have G : GotS X.K X.mg W nw H0 O0 σ ρ H D (match setP ps p q with
              | .ok qs => .next (ρ1.set i (.own qs))
              | _ => .stuck) := G
            cases hq : setP ps p q with
            | stuck => rw [hq] at G; exact G.elim
            | exc c => rw [hq] at G; exact G.elim
            | ok qs =>
              rw [hq] at G
              unfold setP at hq
              split at hq
              · split at hq
                · rename_i j hj
                  cases hq
                  cases (show Rep X.K H2 (OO O0 σ ρ1) w (.int _) from r2)
                  have r5 := (e5.same s2).set (r1.same s2) j
                  refine ⟨a, vs, _, j, rfl, rfl, s2 _ _ e2, by rw [e5.length]; exact hj, G σ _ ((S1.step s2).write hi1 e1 r5) ?_⟩
                  exact (kk.trans (Kept.same s2)).trans fun d o h n => ⟨by rw [upd_ne (fun z => n (by rw [z]; exact .inr ⟨i, ps, hi1, e1⟩))]; exact h, fun z => n ((oo_box hi1).mp z)⟩
                · cases hq
              · cases hq
        | un => exact G.elim
        | val p => exact G.elim
        | ex p => exact G.elim
        | dd p l => exact G.elim
  · rw [if_neg hob] at G; exact G.elim
def xLT (b : Nat) (t : Rho → R Bool) : Rho → R (Bool × List PV) := fun ρ => match ρ[b]? with
  | some (.own c) => (match t ρ with
    | .ok k => .ok (k, c)
    | _ => .stuck)
  | _ => .stuck
theorem x_lT {c : Expr} {t : Rho → R Bool} (h : TJ X W c t) : XTJ X b c (xLT b t) := by
  refine pt_imp h fun σ H Q ⟨H0, O0, ρ, c, S, hb, G⟩ => ⟨H0, O0, ρ, S, ?_⟩
  unfold xLT at G
  rw [hb] at G
  have G' : GotXT X.K O0 σ ρ b H0 H Q (match t ρ with
    | .ok k => .ok (k, c)
    | _ => .stuck) := G
  revert G'
  cases t ρ with
  | stuck => exact False.elim
  | exc c => exact False.elim
  | ok k => exact fun G H' s => G H' (by rw [set_selfB hb]; exact S.step s) (KeptB.same s)
def xForL (tgt : PV → Rho → Option Rho) (g : Rho → OutX) : List PV → Rho → OutX
  | [], ρ => .ok (none, ρ)
  | p :: ps, ρ => match tgt p ρ with
    | some ρ1 => (match g ρ1 with
      | .ok (none, ρ') => if hasB ρ' = true then xForL tgt g ps ρ' else .stuck
      | o => o)
    | none => .stuck
def xFor (f : Rho → R (PV × List PV)) (tgt : PV → Rho → Option Rho) (g : Rho → OutX) : Rho → OutX := fun ρ => match xRng f ρ with
  | .ok (items, c) => xForL tgt g items (ρ.set 0 (.own c))
  | _ => .stuck
theorem xs_for {a : Addr} {fb : Rho → R (PV × List PV)} {tgt : PV → Rho → Option Rho} {ts : List Nat} {g : Rho → OutX} {body : List Stmt} {p2 : Pos} (h0 : 0 ∉ ts) (hp : PassesOwn (model X.prog X.w) X.A X.env X.xe) (hc : X.calm = true) (mg : X.mg "range" = none) (hgl : Gl X "range") (ha : XJ X 0 e fb) (hg : GJ X tg ts tgt) (hb : BXJ X a body g) (hs : starEach [e] X.env = [(false, eval e X.env)] := by rfl) (hs2 : starEach [e] X.env = (false, eval e X.env) :: starEach [] X.env := by rfl)
    (hf : ∀ x, foldedSetIterable (.Call (.Name "range" p) [e] [] p2) X.env x = pure x := by intro _; rfl) : SXJ X a (.For tg (.Call (.Name "range" p) [e] [] p2) body [] pos) (xFor fb tgt g) := by
  refine ps_imp (ps_for hp hc (ix_rng1 mg hgl ha hs hs2) hg hb hf) fun D σ H ⟨H0, O0, ρ, c, S, hb, ha, G⟩ => ⟨H0, O0, ρ, c, S, hb, ?_⟩
  revert G
  unfold xFor
  cases xRng fb ρ with
  | stuck => exact False.elim
  | exc c => exact False.elim
  | ok x =>
    obtain ⟨items, c1⟩ := x
    intro G J H1 S1 k1 ok
    have G : GotSX X.K a H0 O0 H D (xForL tgt g items (ρ.set 0 (.own c1))) := G
    have triv : ∀ (O : Addr → Prop) (H : Hp), Kept (fun _ => True) H1 O H := fun O H d o h n => absurd trivial n
    refine ⟨fun i m σc Hc => m = items.length - i ∧ i ≤ items.length ∧ ∃ ρc cc, StR X.K H0 O0 Hc σc ρc ∧ ρc[(0 : Nat)]? = some (.own cc) ∧ σc[(0 : Nat)]? = some (some (.ref a)) ∧ GotSX X.K a H0 O0 Hc D (xForL tgt g (items.drop i) ρc),
      ⟨items.length, by simp, Nat.zero_le _, ρ.set 0 (.own c1), c1, S1, set_has hb, ha, by rw [List.drop_zero]; exact GotSX.later (k1.a ha) G⟩, ?_⟩
    rintro i m σc Hc ⟨rfl, hi, ρc, cc, Sc, hbc, hac, Gc⟩
    by_cases hlt : i < items.length
    · refine .inr ⟨(ok fun _ => True).go i Hc (fun _ => False) (triv _ _) hlt, fun σ' H' => ∃ ρ' c', StR X.K H0 O0 H' σ' ρ' ∧ ρ'[(0 : Nat)]? = some (.own c') ∧ σ'[(0 : Nat)]? = some (some (.ref a)) ∧ GotSX X.K a H0 O0 H' D (xForL tgt g (items.drop (i + 1)) ρ'), fun σ' H' n => ⟨items.length - (i + 1), by omega, rfl, hlt, n⟩, fun x Hy hy => ?_⟩
      have hgi : items[i]? = some items[i] := List.getElem?_eq_getElem hlt
      obtain ⟨sy, ry⟩ := (ok fun _ => True).yld i Hc (OO O0 σc ρc) x Hy _ (triv _ _) (fun a z => Sc.there z) hgi hy
      have hdr : items.drop i = items[i] :: items.drop (i + 1) := List.drop_eq_getElem_cons hlt
      rw [hdr] at Gc
      refine ⟨H0, O0, ρc, items[i], Sc.step sy, ry, ?_⟩
      unfold xForL at Gc
      revert Gc
      cases tgt items[i] ρc with
      | none => exact False.elim
      | some ρ1 =>
        intro Gc σ2 S2 l2 _ kg
        have k0 := kg 0 h0
        refine ⟨H0, O0, ρ1, cc, S2, by rw [k0.2]; exact hbc, by rw [k0.1]; exact hac, ?_⟩
        have Gc' : GotSX X.K a H0 O0 Hc D (match g ρ1 with
          | .ok (none, ρ') => if hasB ρ' = true then xForL tgt g (items.drop (i + 1)) ρ' else .stuck
          | o => o) := Gc
        revert Gc'
        cases g ρ1 with
        | stuck => exact False.elim
        | exc c => exact False.elim
        | ok y =>
          obtain ⟨r, ρ'⟩ := y
          cases r with
          | some q => exact fun G v σ' H' S' z k' => G v σ' H' S' z ((KeptA.same sy).trans k')
          | none =>
            intro G σ' H' S' z k'
            have G : GotSX X.K a H0 O0 Hc D (if hasB ρ' = true then xForL tgt g (items.drop (i + 1)) ρ' else .stuck) := G
            by_cases hh : hasB ρ' = true
            · rw [if_pos hh] at G
              obtain ⟨c', hc'⟩ := hasB_of hh
              exact ⟨ρ', c', S', hc', z, GotSX.later ((KeptA.same sy).trans k') G⟩
            · rw [if_neg hh] at G; exact G.elim
    · have e : i = items.length := by omega
      subst e
      rw [List.drop_length] at Gc
      exact .inl ⟨(ok fun _ => True).stop _ Hc (fun _ => False) (triv _ _) (Nat.le_refl _), Gc σc Hc Sc hac (KeptA.refl _ _)⟩
end
end PL
set_option Elab.async false
set_option linter.all false
set_option maxRecDepth 100000
set_option autoImplicit false
namespace PL
open PySem PySem.Spec L2
open PyProof.Rows hiding St
section
variable {X : Cx} {W : WX} {nw : Bool} {e a b : Expr} {st : Stmt} {rest : List Stmt} {pos p : Pos} {f g : Rho → R PV} {fA : Rho → R (List PV)}
def GotD (H0 : Hp) (a : Addr) (D : Ends) : Out → Prop
  | .ret (.dt l) => ∀ H', Same H0 H' → H' a = some (.dT (encD l)) → D.rt (.ref a) H'
  | .ret (.bl b) => ∀ H', Same H0 H' → D.rt (.bl b) H'
  | _ => False
def ddAt (i : Nat) (a : Addr) (ρ : Rho) : Prop := ∃ l, ρ[i]? = some (.dd a l)
def tSD (K : PySem.W.Frag) (i : Nat) (g : Rho → Out) : TS := fun D σ H => ∃ (H0 : Hp) (O0 : Addr → Prop) (ρ : Rho) (a : Addr), StR K H0 (fun d => O0 d ∨ d = a) H σ ρ ∧ ddAt i a ρ ∧ GotD H0 a D (g ρ)
abbrev BD (X : Cx) (i : Nat) (st : List Stmt) (g : Rho → Out) : Prop := PSs X st (tSD X.K i g)
def addD (i : Nat) (ρ : Rho) : Option Addr := match ρ[i]? with
  | some (.dd a _) => some a
  | _ => none
theorem addD_of {i : Nat} {a : Addr} {ρ : Rho} (h : addD i ρ = some a) : ddAt i a ρ := by
  unfold addD at h
  split at h
  · rename_i a' l hl
    cases h
    exact ⟨l, hl⟩
  · cases h
theorem addD_at {i : Nat} {a : Addr} {ρ : Rho} (h : ddAt i a ρ) : addD i ρ = some a := by
  obtain ⟨l, hl⟩ := h
  unfold addD
  rw [hl]
def bSeqD (i : Nat) (g h : Rho → Out) : Rho → Out := fun ρ => match g ρ with
  | .ret (.bl b) => .ret (.bl b)
  | .next ρ' => if addD i ρ' = addD i ρ then h ρ' else .stuck
  | _ => .stuck
theorem b_consD {i : Nat} {g h : Rho → Out} (h1 : SJ X W false st g) (h2 : BD X i rest h) : BD X i (st :: rest) (bSeqD i g h) := by
  refine pss_imp (pss_cons h1 h2) fun D σ H ⟨H0, O0, ρ, a, S, ha, G⟩ => ⟨H0, _, ρ, S, ?_⟩
  have G' : GotD H0 a D (match g ρ with
    | .ret (.bl b) => .ret (.bl b)
    | .next ρ' => if addD i ρ' = addD i ρ then h ρ' else .stuck
    | _ => .stuck) := G
  revert G'
  cases g ρ with
  | next ρ' =>
    intro G' σ' H' S' k
    have G' : GotD H0 a D (if addD i ρ' = addD i ρ then h ρ' else .stuck) := G'
    by_cases e : addD i ρ' = addD i ρ
    · rw [if_pos e] at G'
      exact ⟨H0, O0, ρ', a, S', addD_of (e.trans (addD_at ha)), G'⟩
    · rw [if_neg e] at G'; exact G'.elim
  | ret p =>
    cases p with
    | bl b =>
      intro G' v H' s r
      have r : Rep X.K H' (fun d => O0 d ∨ d = a) v (.bl b) := r
      cases r
      exact G' H' s
    | _ => exact False.elim
  | brk ρ' => exact False.elim
  | cont ρ' => exact False.elim
  | exc c ρ' => exact False.elim
  | stuck => exact False.elim
def bNilD : Rho → Out := fun _ => .stuck
theorem b_nilD {i : Nat} : BD X i [] bNilD := by
  refine pss_imp pss_nil fun D σ H ⟨H0, O0, ρ, a, S, ha, G⟩ => G.elim
/-- the first statement -/
def tSN (K : PySem.W.Frag) (i : Nat) (g : Rho → Out) : TS := fun D σ H => ∃ (H0 : Hp) (O : Addr → Prop) (ρ : Rho), StR K H0 O H σ ρ ∧ i < ρ.length ∧ ∃ p, (∀ a, g (ρ.set i (.dd a [])) = .ret p) ∧ (match p with
  | .dt l => ∀ a H', H a = none → Same H0 H' → H' a = some (.dT (encD l)) → D.rt (.ref a) H'
  | .bl b => ∀ H', Same H0 H' → D.rt (.bl b) H'
  | _ => False)
theorem b_mkD {i : Nat} {h : Rho → Out} {x : Str} {dp pos' : Pos} (hN : X.N.Nodup) (hi : X.N[i]? = some x) (hx : Loc X.env.scope x) (hr : BD X i rest h) (hs : swapsWith (.Dict [] [] dp) (some (.Name x pos')) pos.line X.env = pure false := by rfl) (hf : X.fn x = true ∨ X.env.scope.names.lookup x = some .local := by first | exact .inl rfl | exact .inr rfl | assumption) :
    PSs X (.Assign [.Name x pos'] (.Dict [] [] dp) pos :: rest) (tSN X.K i h) := by
  refine pss_imp (pss_cons (ps_set hN hi hx pe_dnewT hs hf) hr) fun D σ H ⟨H0, O, ρ, S, il, p, hp, hq⟩ => ?_
  intro a ha
  show tSD X.K i h D (σ.set i (some (.ref a))) (upd H a (.dT []))
  have S' : StR X.K H0 (fun d => O d ∧ ∀ xs, H d ≠ some (.tup xs)) H σ ρ := by
    have oo : ∀ d, OO (fun d => O d ∧ ∀ xs, H d ≠ some (.tup xs)) σ ρ d → OO O σ ρ d := fun d z => z.elim (fun z => .inl z.1) .inr
    refine ⟨S.len, S.same, fun d z => S.all0 d z.1, fun j ps hj => ?_, S.dis, fun j p hj => ?_, S.exs, fun j d l hj => ?_⟩
    · obtain ⟨b, vs, e1, e2, e3, e4, e5⟩ := S.own j ps hj
      exact ⟨b, vs, e1, e2, e3, fun z => e4 z.1, e5.less oo⟩
    · obtain ⟨v, e1, e2⟩ := S.val j p hj
      exact ⟨v, e1, e2.less oo⟩
    · obtain ⟨e1, e2, e3, e4, e5, e6⟩ := S.dds j d l hj
      exact ⟨e1, e2, ⟨e3, fun xs z => by rw [z] at e2; cases e2⟩, e4, e5, fun b xs o z => o.2 xs z⟩
  refine ⟨H0, _, _, a, S'.newDd ha il (fun b xs z => z.2 xs), ⟨[], List.getElem?_set_self il⟩, ?_⟩
  rw [hp a]
  cases p with
  | dt l => exact fun H' s e => hq a H' ha s e
  | bl b => exact hq
  | _ => exact hq.elim
end
open Classical in
/-- what such a def answers, whatever the dict's address is -/
noncomputable def runDt (n i : Nat) (g : Rho → Out) : List PV → R PV := fun ps =>
  if h : ∃ p, ∀ a, g ((ps.map Slot.val ++ List.replicate (n - ps.length) Slot.un).set i (.dd a [])) = .ret p then (if i < n then (match h.choose with
    | .dt l => .ok (.dt l)
    | .bl b => .ok (.bl b)
    | _ => .stuck) else .stuck) else .stuck
theorem runDt_bl {n i : Nat} {g : Rho → Out} {ps : List PV} {b : Bool} (hi : i < n) (h : ∀ a, g ((ps.map Slot.val ++ List.replicate (n - ps.length) Slot.un).set i (.dd a [])) = .ret (.bl b)) : runDt n i g ps = .ok (.bl b) := by
  have hx : ∃ p, ∀ a, g ((ps.map Slot.val ++ List.replicate (n - ps.length) Slot.un).set i (.dd a [])) = .ret p := ⟨_, h⟩
  unfold runDt
  rw [dif_pos hx, if_pos hi]
  have e : Out.ret hx.choose = .ret (.bl b) := (hx.choose_spec 0).symm.trans (h 0)
  injection e with e
  rw [e]
section
variable {P : Program} {w : World} {K : PySem.W.Frag} {mg : Str → Option Value} {base : Heap}
theorem def_okT {x : Str} {st : Stmt} {N ps : List Str} {k n i : Nat} {g : Rho → Out} (T : DefE K mg x st ps) (S : FnScope N ps (defScope st)) (hn : n = ps.length) (hpn : ps.length ≤ N.length)
    (hbody : ∀ (f : Addr) (cdv : Value) (A : Around) (outer : List PySem.Env) (s : Shared) (H : Hp) (E : XK), Room k (A.deeper (envOfC x (defScope st) s.heap.objs.size f cdv)) →
      PSs (cxOf (L2N.CX P w) P w K mg base N x (defScope st) f cdv A outer s H E) (defBody st) (tSN K i g)) :
    Okd P w K mg base x ps (k + 1) n false (runDt N.length i g) := by
  obtain ⟨f, fd, T⟩ := T
  refine ⟨f, fd, T.g, T.F.kp, T.b, Fun_okN T.F S (fun vs H Q E h => ?_) (fun cdv A outer s H vs Q E hr h => ?_)⟩
  · obtain ⟨_, _, _, _, e, _⟩ := h
    rw [e, hn]
  · obtain ⟨qs, O, al, r, e, h⟩ := h
    refine ⟨_, hbody f cdv A outer s H E hr, H, O, _, start_st al r, ?_⟩
    have ln : (qs.map Slot.val ++ List.replicate (N.length - qs.length) Slot.un).length = N.length := by
      rw [List.length_append, List.length_map, List.length_replicate, ← r.length, e, hn]; omega
    have h' : (match runDt N.length i g qs with
      | .ok p => ∀ v H', Same H H' → RepR K O false H H' v p → Q v H'
      | .exc c => ∀ C H', Same H H' → mg c = some (.ref C) → E (.ref C) none H'
      | .stuck => False) := h
    unfold runDt at h'
    by_cases hx : ∃ p, ∀ a, g ((qs.map Slot.val ++ List.replicate (N.length - qs.length) Slot.un).set i (.dd a [])) = .ret p
    · rw [dif_pos hx] at h'
      by_cases hi : i < N.length
      · rw [if_pos hi] at h'
        refine ⟨by rw [ln]; exact hi, hx.choose, hx.choose_spec, ?_⟩
        revert h'
        cases hx.choose with
        | dt l => exact fun h a H' ha s e => h _ H' s (.dt e fun z => al a z ha)
        | bl b => exact fun h H' s => h _ H' s (.bl b)
        | _ => exact False.elim
      · rw [if_neg hi] at h'; exact h'.elim
    · rw [dif_neg hx] at h'; exact h'.elim
end
end PL
set_option Elab.async false
set_option linter.all false
set_option maxRecDepth 100000
set_option autoImplicit false
namespace PL
open PySem PySem.Spec L2
open PyProof.Rows hiding St
def sMove (i j : Nat) : Rho → Out := fun ρ => if i = j then .stuck else match ρ[j]? with
  | some (.own ps) => .next ((ρ.set j .un).set i (.own ps))
  | _ => .stuck
theorem StR.move {K : PySem.W.Frag} {H0 H : Hp} {O0 : Addr → Prop} {σ : St} {ρ : Rho} (S : StR K H0 O0 H σ ρ) {i j : Nat} {a : Addr} {ps : List PV} (ij : i ≠ j) (h1 : ρ[j]? = some (.own ps)) (h2 : σ[j]? = some (some (.ref a))) :
    StR K H0 O0 H (σ.set i (some (.ref a))) ((ρ.set j .un).set i (.own ps)) ∧ ∀ b, OO O0 (σ.set i (some (.ref a))) ((ρ.set j .un).set i (.own ps)) b → OO O0 σ ρ b := by
  have slot : ∀ {k : Nat} {s : Slot}, ((ρ.set j .un).set i (.own ps))[k]? = some s → (k = i ∧ s = .own ps) ∨ (k = j ∧ s = .un) ∨ (k ≠ i ∧ k ≠ j ∧ ρ[k]? = some s) := fun {k s} h => by
    by_cases e : i = k
    · subst e
      by_cases hl : i < ρ.length
      · rw [List.getElem?_set_self (by rw [List.length_set]; exact hl)] at h
        exact .inl ⟨rfl, (Option.some.inj h).symm⟩
      · rw [List.getElem?_eq_none (by rw [List.length_set, List.length_set]; omega)] at h; cases h
    · rw [List.getElem?_set_ne e] at h
      by_cases e2 : j = k
      · subst e2
        rw [List.getElem?_set_self (List.getElem?_eq_some_iff.mp h1).1] at h
        exact .inr (.inl ⟨rfl, (Option.some.inj h).symm⟩)
      · rw [List.getElem?_set_ne e2] at h
        exact .inr (.inr ⟨fun z => e z.symm, fun z => e2 z.symm, h⟩)
  have at_ : ∀ {k : Nat}, k ≠ i → (σ.set i (some (.ref a)))[k]? = σ[k]? := fun {k} h => List.getElem?_set_ne (Ne.symm h)
  have ai : ∀ {v : Option V}, (σ.set i (some (.ref a)))[i]? = some v → v = some (.ref a) := fun {v} h => by
    by_cases hl : i < σ.length
    · rw [List.getElem?_set_self hl] at h; exact (Option.some.inj h).symm
    · rw [List.getElem?_eq_none (by rw [List.length_set]; omega)] at h; cases h
  have less : ∀ b, OO O0 (σ.set i (some (.ref a))) ((ρ.set j .un).set i (.own ps)) b → OO O0 σ ρ b := fun b z => by
    rcases z with z | ⟨k, qs, z1, z2⟩
    · exact .inl z
    · rcases slot z1 with ⟨rfl, e⟩ | ⟨_, e⟩ | ⟨k1, k2, k3⟩
      · have := ai z2
        cases this
        exact .inr ⟨j, ps, h1, h2⟩
      · cases e
      · rw [at_ k1] at z2
        exact .inr ⟨k, qs, k3, z2⟩
  refine ⟨⟨by rw [List.length_set, List.length_set, List.length_set]; exact S.len, S.same, S.all0, fun k qs h => ?_, fun k l b qs rs g1 g2 g3 g4 => ?_, fun k p h => ?_, exs_set (by rw [List.length_set]; exact S.len) (exs_setR (s := .un) S.exs fun _ z => (nomatch z)) fun _ z => (nomatch z), dds_set (dds_setR (s := .un) S.dds fun _ _ z => (nomatch z)) fun _ _ z => (nomatch z)⟩, less⟩
  · rcases slot h with ⟨rfl, e⟩ | ⟨_, e⟩ | ⟨k1, k2, k3⟩
    · injection e with e
      subst e
      obtain ⟨b, vs, e1, e2, e3, e4, e5⟩ := S.own j qs h1
      rw [h2] at e1; cases e1
      have hl : k < σ.length := by
        have := (List.getElem?_eq_some_iff.mp h).1
        rw [List.length_set, List.length_set] at this
        rw [S.len]; exact this
      exact ⟨a, vs, List.getElem?_set_self hl, e2, e3, e4, e5.less less⟩
    · cases e
    · obtain ⟨b, vs, e1, e2, e3, e4, e5⟩ := S.own k qs k3
      exact ⟨b, vs, by rw [at_ k1]; exact e1, e2, e3, e4, e5.less less⟩
  · rcases slot g1 with ⟨rfl, e⟩ | ⟨_, e⟩ | ⟨k1, k2, k3⟩
    · rcases slot g2 with ⟨rfl, e'⟩ | ⟨_, e'⟩ | ⟨l1, l2, l3⟩
      · rfl
      · cases e'
      · have := ai g3
        cases this
        rw [at_ l1] at g4
        exact absurd (S.dis j l a ps rs h1 l3 h2 g4).symm l2
    · cases e
    · rcases slot g2 with ⟨rfl, e'⟩ | ⟨_, e'⟩ | ⟨l1, l2, l3⟩
      · have := ai g4
        cases this
        rw [at_ k1] at g3
        exact absurd (S.dis j k a ps qs h1 k3 h2 g3).symm k2
      · cases e'
      · rw [at_ k1] at g3
        rw [at_ l1] at g4
        exact S.dis k l b qs rs k3 l3 g3 g4
  · rcases slot h with ⟨_, e⟩ | ⟨_, e⟩ | ⟨k1, k2, k3⟩
    · cases e
    · cases e
    · obtain ⟨v, e1, e2⟩ := S.val k p k3
      exact ⟨v, by rw [at_ k1]; exact e1, e2.less less⟩
section
variable {X : Cx} {W : WX} {nw : Bool} {e : Expr} {pos : Pos} {i j : Nat}
theorem s_move {x : Str} {pos' : Pos} (hN : X.N.Nodup) (hi : X.N[i]? = some x) (hx : Loc X.env.scope x) (he : PE X e (tVar j)) (hs : swapsWith e (some (.Name x pos')) pos.line X.env = pure false := by rfl) (hf : X.fn x = true ∨ X.env.scope.names.lookup x = some .local := by first | exact .inl rfl | exact .inr rfl | assumption) :
    SJ X W nw (.Assign [.Name x pos'] e pos) (sMove i j) := by
  refine ps_imp (ps_set hN hi hx he hs hf) fun D σ H ⟨H0, O0, ρ, S, G⟩ => ?_
  unfold sMove at G
  by_cases ij : i = j
  · rw [if_pos ij] at G; exact G.elim
  rw [if_neg ij] at G
  cases hj : ρ[j]? with
  | none => rw [hj] at G; exact G.elim
  | some s =>
    rw [hj] at G
    cases s with
    | own ps =>
      obtain ⟨a, vs, e1, _⟩ := S.own j ps hj
      obtain ⟨S', l⟩ := S.move ij hj e1
      exact ⟨.ref a, e1, G _ H S' fun b o h n => ⟨h, fun z => n (l b z)⟩⟩
    | un => exact G.elim
    | val p => exact G.elim
    | ex p => exact G.elim
    | dd p l => exact G.elim
end
end PL
set_option Elab.async false
set_option linter.all false
set_option maxRecDepth 100000
set_option autoImplicit false
namespace PM
open PySem PySem.Spec L2 PL
open PyProof.Rows hiding St
theorem vp_of {p n m : Int} {v : Nat} (hp : 2 ≤ p) (e : n = m * p ^ v) (hm : m % p ≠ 0) : n ≠ 0 ∧ vp p n = v := by
  have hn : n ≠ 0 := fun z => by
    rw [z] at e
    rcases Int.mul_eq_zero.mp e.symm with h | h
    · rw [h] at hm; exact hm (Int.zero_emod p)
    · exact absurd h (Int.ne_of_gt (Int.pow_pos (by omega)))
  refine ⟨hn, ?_⟩
  obtain ⟨m', v', e', hm', ev⟩ := vp_spec hp hn
  rw [ev]
  have := vp_uniq hp (e'.symm.trans e) hm' hm
  rw [this]
theorem vp_add_lt {p x y : Int} (hp : 2 ≤ p) (hx : x ≠ 0) (hy : y ≠ 0) (h : vp p x < vp p y) : x + y ≠ 0 ∧ vp p (x + y) = vp p x := by
  obtain ⟨m, a, e1, h1, v1⟩ := vp_spec hp hx
  obtain ⟨n, b, e2, h2, v2⟩ := vp_spec hp hy
  rw [v1, v2] at h
  have hab : a < b := by omega
  obtain ⟨c, hc⟩ : ∃ c, b = a + (c + 1) := ⟨b - a - 1, by omega⟩
  rw [v1]
  refine vp_of hp (m := m + n * p ^ c * p) ?_ ?_
  · rw [e1, e2, hc, Int.pow_add, Int.pow_succ]
    grind
  · rw [Int.add_mul_emod_self_right]
    exact h1
theorem vp_add_ge {p x y : Int} (hp : 2 ≤ p) (hx : x ≠ 0) (hy : y ≠ 0) (hxy : x + y ≠ 0) (h : vp p x ≤ vp p y) : vp p x ≤ vp p (x + y) := by
  obtain ⟨m, a, e1, h1, v1⟩ := vp_spec hp hx
  obtain ⟨n, b, e2, h2, v2⟩ := vp_spec hp hy
  obtain ⟨r, c, e3, h3, v3⟩ := vp_spec hp hxy
  rw [v1, v2] at h
  have hab : a ≤ b := by omega
  obtain ⟨d, hd⟩ : ∃ d, b = a + d := ⟨b - a, by omega⟩
  rw [v1, v3]
  apply Classical.byContradiction
  intro z
  have hca : c < a := by omega
  obtain ⟨f, hf⟩ : ∃ f, a = c + (f + 1) := ⟨a - c - 1, by omega⟩
  have e4 : r * p ^ c = (m + n * p ^ d) * p ^ f * p * p ^ c := by
    rw [← e3, e1, e2, hd, hf, Int.pow_add, Int.pow_add, Int.pow_succ]
    grind
  have e5 : r = (m + n * p ^ d) * p ^ f * p := Int.eq_of_mul_eq_mul_right (Int.ne_of_gt (Int.pow_pos (by omega))) e4
  rw [e5, Int.mul_emod_left] at h3
  exact h3 rfl
section
variable {p w u : Int}
def GeW (p w u N x k : Int) : Prop := x = 0 ∨ N ≤ w * vp p x + u * k
def GtW (p w u N x k : Int) : Prop := x = 0 ∨ N < w * vp p x + u * k
def EqW (p w u N x k : Int) : Prop := x ≠ 0 ∧ w * vp p x + u * k = N
theorem GtW.ge {N x k : Int} (h : GtW p w u N x k) : GeW p w u N x k := h.elim .inl fun z => .inr (Int.le_of_lt z)
theorem EqW.ge {N x k : Int} (h : EqW p w u N x k) : GeW p w u N x k := .inr (Int.le_of_eq h.2.symm)
theorem GeW.add (hp : 2 ≤ p) (hw : 0 < w) {N x y k : Int} (h1 : GeW p w u N x k) (h2 : GeW p w u N y k) : GeW p w u N (x + y) k := by
  by_cases hx : x = 0
  · rw [hx, Int.zero_add]; exact h2
  by_cases hy : y = 0
  · rw [hy, Int.add_zero]; exact h1
  by_cases hs : x + y = 0
  · exact .inl hs
  have h1 := h1.resolve_left hx
  have h2 := h2.resolve_left hy
  refine .inr ?_
  rcases Int.le_total (vp p x) (vp p y) with h | h
  · have := Int.mul_le_mul_of_nonneg_left (vp_add_ge hp hx hy hs h) (Int.le_of_lt hw)
    omega
  · rw [Int.add_comm] at hs
    have := Int.mul_le_mul_of_nonneg_left (vp_add_ge hp hy hx hs h) (Int.le_of_lt hw)
    rw [Int.add_comm y x] at this
    omega
theorem GtW.add (hp : 2 ≤ p) (hw : 0 < w) {N x y k : Int} (h1 : GtW p w u N x k) (h2 : GtW p w u N y k) : GtW p w u N (x + y) k := by
  have h1' : GeW p w u (N + 1) x k := h1.elim .inl fun z => .inr z
  have h2' : GeW p w u (N + 1) y k := h2.elim .inl fun z => .inr z
  exact (GeW.add hp hw h1' h2').elim .inl fun z => .inr z
theorem EqW.add (hp : 2 ≤ p) (hw : 0 < w) {N x y k : Int} (h1 : EqW p w u N x k) (h2 : GtW p w u N y k) : EqW p w u N (x + y) k := by
  obtain ⟨hx, e⟩ := h1
  by_cases hy : y = 0
  · rw [hy, Int.add_zero]; exact ⟨hx, e⟩
  have h2 := h2.resolve_left hy
  have lt : vp p x < vp p y := by
    apply Classical.byContradiction
    intro z
    have := Int.mul_le_mul_of_nonneg_left (show vp p y ≤ vp p x by omega) (Int.le_of_lt hw)
    omega
  obtain ⟨a, b⟩ := vp_add_lt hp hx hy lt
  exact ⟨a, by rw [b]; exact e⟩
/-- times a number, at a place d further on -/
theorem GeW.mul (hp : p ∈ primesL) {N x k b d : Int} (hb : b ≠ 0) (h : GeW p w u N x k) : GeW p w u (N + (w * vp p b + u * d)) (b * x) (k + d) := by
  by_cases hx : x = 0
  · exact .inl (by rw [hx, Int.mul_zero])
  have h := h.resolve_left hx
  refine .inr ?_
  rw [vp_mul hp hb hx, Int.mul_add, Int.mul_add]
  omega
theorem GtW.mul (hp : p ∈ primesL) {N x k b d : Int} (hb : b ≠ 0) (h : GtW p w u N x k) : GtW p w u (N + (w * vp p b + u * d)) (b * x) (k + d) := by
  by_cases hx : x = 0
  · exact .inl (by rw [hx, Int.mul_zero])
  have h := h.resolve_left hx
  refine .inr ?_
  rw [vp_mul hp hb hx, Int.mul_add, Int.mul_add]
  omega
theorem EqW.mul (hp : p ∈ primesL) {N x k b d : Int} (hb : b ≠ 0) (h : EqW p w u N x k) : EqW p w u (N + (w * vp p b + u * d)) (b * x) (k + d) := by
  obtain ⟨hx, e⟩ := h
  refine ⟨fun z => (Int.mul_eq_zero.mp z).elim hb hx, ?_⟩
  rw [vp_mul hp hb hx, Int.mul_add, Int.mul_add]
  omega
/-- the least weight m, from lo to hi -/
structure Ed (p w u : Int) (A : Int → Int) (m l r : Int) : Prop where
  lo : EqW p w u m (A l) l
  hi : EqW p w u m (A r) r
  ge : ∀ k, GeW p w u m (A k) k
  gt : ∀ k, k < l ∨ r < k → GtW p w u m (A k) k
theorem Ed.uniq {A : Int → Int} {m lo hi m' lo' hi' : Int} (h : Ed p w u A m lo hi) (h' : Ed p w u A m' lo' hi') : m = m' ∧ lo = lo' ∧ hi = hi' := by
  have key : ∀ {m lo hi m' lo' hi' : Int}, Ed p w u A m lo hi → Ed p w u A m' lo' hi' → m' ≤ m := fun h h' => by
    have := (h'.ge _).resolve_left h.lo.1
    have := h.lo.2
    omega
  have em : m = m' := Int.le_antisymm (key h' h) (key h h')
  subst em
  have inn : ∀ {lo hi k : Int}, Ed p w u A m lo hi → EqW p w u m (A k) k → lo ≤ k ∧ k ≤ hi := fun {lo hi k} h e => by
    apply Classical.byContradiction
    intro z
    have := (h.gt k (by omega)).resolve_left e.1
    have := e.2
    omega
  have a1 := inn h h'.lo
  have a2 := inn h h'.hi
  have a3 := inn h' h.lo
  have a4 := inn h' h.hi
  exact ⟨rfl, by omega, by omega⟩
/-- times b x - t -/
def linA (b t : Int) (A : Int → Int) : Int → Int := fun k => b * A (k - 1) + -t * A k
theorem GeW.le {N N' x k : Int} (h : GeW p w u N x k) (l : N' ≤ N) : GeW p w u N' x k := h.elim .inl fun z => .inr (by omega)
theorem GeW.lt {N N' x k : Int} (h : GeW p w u N x k) (l : N' < N) : GtW p w u N' x k := h.elim .inl fun z => .inr (by omega)
theorem GtW.le {N N' x k : Int} (h : GtW p w u N x k) (l : N' ≤ N) : GtW p w u N' x k := h.elim .inl fun z => .inr (by omega)
/-- by how much the end moves on -/
noncomputable def stepHi (p w u b t : Int) : Int := if t = 0 then 1 else if w * vp p t < w * vp p b + u then 0 else 1
noncomputable def stepLo (p w u b t : Int) : Int := if t = 0 then 1 else if w * vp p b + u < w * vp p t then 1 else 0
theorem Ed.lin (hp : p ∈ primesL) (hw : 0 < w) {A : Int → Int} {m lo hi b t : Int} (hb : b ≠ 0) (h : Ed p w u A m lo hi) : ∃ m', Ed p w u (linA b t A) m' (lo + stepLo p w u b t) (hi + stepHi p w u b t) := by
  have hp2 := (primesL_le p hp).1
  have B1 : ∀ k, GeW p w u (m + (w * vp p b + u * 1)) (b * A (k - 1)) k := fun k => by have := (h.ge (k - 1)).mul (d := 1) hp hb; rw [Int.sub_add_cancel] at this; exact this
  have B2 : ∀ k, k - 1 < lo ∨ hi < k - 1 → GtW p w u (m + (w * vp p b + u * 1)) (b * A (k - 1)) k := fun k hk => by have := (h.gt (k - 1) hk).mul (d := 1) hp hb; rw [Int.sub_add_cancel] at this; exact this
  have B3 : EqW p w u (m + (w * vp p b + u * 1)) (b * A (lo + 1 - 1)) (lo + 1) := by rw [Int.add_sub_cancel]; exact h.lo.mul (d := 1) hp hb
  have B4 : EqW p w u (m + (w * vp p b + u * 1)) (b * A (hi + 1 - 1)) (hi + 1) := by rw [Int.add_sub_cancel]; exact h.hi.mul (d := 1) hp hb
  have lh : lo ≤ hi := by
    apply Classical.byContradiction
    intro z
    have := (h.gt lo (.inr (by omega))).resolve_left h.lo.1
    have := h.lo.2
    omega
  unfold stepLo stepHi
  by_cases ht : t = 0
  · rw [if_pos ht, if_pos ht]
    have e : ∀ k, linA b t A k = b * A (k - 1) := fun k => by unfold linA; rw [ht, Int.neg_zero, Int.zero_mul, Int.add_zero]
    exact ⟨_, by rw [e]; exact B3, by rw [e]; exact B4, fun k => by rw [e]; exact B1 k, fun k hk => by rw [e]; exact B2 k (by omega)⟩
  rw [if_neg ht, if_neg ht]
  have hn : -t ≠ 0 := fun z => ht (by omega)
  have vn : vp p (-t) = vp p t := vp_neg hp2 ht
  have C1 : ∀ k, GeW p w u (m + w * vp p t) (-t * A k) k := fun k => by have := (h.ge k).mul (d := 0) hp hn; rw [vn, Int.mul_zero, Int.add_zero, Int.add_zero] at this; exact this
  have C2 : ∀ k, k < lo ∨ hi < k → GtW p w u (m + w * vp p t) (-t * A k) k := fun k hk => by have := (h.gt k hk).mul (d := 0) hp hn; rw [vn, Int.mul_zero, Int.add_zero, Int.add_zero] at this; exact this
  have C3 : EqW p w u (m + w * vp p t) (-t * A lo) lo := by have := h.lo.mul (d := 0) hp hn; rw [vn, Int.mul_zero, Int.add_zero, Int.add_zero] at this; exact this
  have C4 : EqW p w u (m + w * vp p t) (-t * A hi) hi := by have := h.hi.mul (d := 0) hp hn; rw [vn, Int.mul_zero, Int.add_zero, Int.add_zero] at this; exact this
  rw [Int.mul_one] at B1 B2 B3 B4
  rcases Int.lt_trichotomy (w * vp p t) (w * vp p b + u) with c | c | c
  · rw [if_pos c, if_neg (by omega)]
    refine ⟨m + w * vp p t, ?_, ?_, fun k => ((B1 k).le (by omega)).add hp2 hw (C1 k), fun k hk => ((B1 k).lt (by omega)).add hp2 hw (C2 k (by omega))⟩
    · rw [Int.add_zero]
      show EqW p w u _ (b * A (lo - 1) + -t * A lo) lo
      rw [Int.add_comm (b * A (lo - 1))]
      exact C3.add hp2 hw ((B1 lo).lt (by omega))
    · rw [Int.add_zero]
      show EqW p w u _ (b * A (hi - 1) + -t * A hi) hi
      rw [Int.add_comm (b * A (hi - 1))]
      exact C4.add hp2 hw ((B1 hi).lt (by omega))
  · rw [if_neg (by omega), if_neg (by omega)]
    refine ⟨m + w * vp p t, ?_, ?_, fun k => ((B1 k).le (by omega)).add hp2 hw (C1 k), fun k hk => ((B2 k (by omega)).le (by omega)).add hp2 hw (C2 k (by omega))⟩
    · rw [Int.add_zero]
      show EqW p w u _ (b * A (lo - 1) + -t * A lo) lo
      rw [Int.add_comm (b * A (lo - 1))]
      exact C3.add hp2 hw ((B2 lo (by omega)).le (by omega))
    · show EqW p w u _ (b * A (hi + 1 - 1) + -t * A (hi + 1)) (hi + 1)
      rw [c]
      exact B4.add hp2 hw ((C2 (hi + 1) (by omega)).le (by omega))
  · rw [if_pos c, if_neg (show ¬ w * vp p t < w * vp p b + u by omega)]
    refine ⟨m + (w * vp p b + u), ?_, ?_, fun k => (B1 k).add hp2 hw ((C1 k).le (by omega)), fun k hk => (B2 k (by omega)).add hp2 hw ((C1 k).lt (by omega))⟩
    · exact B3.add hp2 hw ((C1 _).lt (by omega))
    · exact B4.add hp2 hw ((C1 _).lt (by omega))
end
end PM
set_option Elab.async false
set_option linter.all false
set_option maxRecDepth 100000
set_option autoImplicit false
namespace PM
open PySem PySem.Spec L2 PL
open PyProof.Rows hiding St
def cf (as : List Int) (k : Int) : Int := if 0 ≤ k then as.getD k.toNat 0 else 0
theorem cf_nat (as : List Int) (j : Nat) : cf as (j : Int) = as.getD j 0 := by unfold cf; rw [if_pos (by omega), Int.toNat_natCast]
theorem pts_mem {p : Int} : ∀ {as : List Int} {n : Nat} {q : Pt}, q ∈ pts p n as → ∃ (j : Nat) (x : Int), as[j]? = some x ∧ x ≠ 0 ∧ q.1 = ((n + j : Nat) : Int) ∧ q.2 = vp p x
  | [], n, q, h => nomatch h
  | a :: r, n, q, h => by
    by_cases ha : a = 0
    · rw [ha, pts_cons0] at h
      obtain ⟨j, x, h1, h2, h3, h4⟩ := pts_mem h
      exact ⟨j + 1, x, by simpa using h1, h2, by rw [h3]; omega, h4⟩
    · rw [pts_cons p n r ha] at h
      rcases List.mem_cons.mp h with rfl | h
      · exact ⟨0, a, rfl, ha, rfl, rfl⟩
      · obtain ⟨j, x, h1, h2, h3, h4⟩ := pts_mem h
        exact ⟨j + 1, x, by simpa using h1, h2, by rw [h3]; omega, h4⟩
theorem mem_pts {p : Int} : ∀ {as : List Int} {n j : Nat} {x : Int}, as[j]? = some x → x ≠ 0 → (((n + j : Nat) : Int), vp p x) ∈ pts p n as
  | [], n, j, x, h, _ => by simp at h
  | a :: r, n, 0, x, h, hx => by
    simp at h
    subst h
    rw [pts_cons p n r hx]
    exact List.mem_cons_self
  | a :: r, n, j + 1, x, h, hx => by
    have ih := mem_pts (p := p) (n := n + 1) (j := j) (x := x) (as := r) (by simpa using h) hx
    rw [show n + 1 + j = n + (j + 1) by omega] at ih
    by_cases ha : a = 0
    · rw [ha, pts_cons0]; exact ih
    · rw [pts_cons p n r ha]; exact List.mem_cons_of_mem _ ih
theorem pts_cf {p : Int} {as : List Int} {q : Pt} (h : q ∈ pts p 0 as) : cf as q.1 ≠ 0 ∧ vp p (cf as q.1) = q.2 := by
  obtain ⟨j, x, h1, h2, h3, h4⟩ := pts_mem h
  rw [Nat.zero_add] at h3
  have e : cf as q.1 = x := by rw [h3, cf_nat, List.getD_eq_getElem?_getD, h1]; rfl
  rw [e]
  exact ⟨h2, h4.symm⟩
theorem cf_pts {p : Int} {as : List Int} {k : Int} (h : cf as k ≠ 0) : (k, vp p (cf as k)) ∈ pts p 0 as := by
  have h0 : 0 ≤ k := by
    apply Classical.byContradiction
    intro z
    unfold cf at h
    rw [if_neg z] at h
    exact h rfl
  obtain ⟨j, rfl⟩ : ∃ j : Nat, k = j := ⟨k.toNat, by omega⟩
  rw [cf_nat] at h ⊢
  cases hj : as[j]? with
  | none => rw [List.getD_eq_getElem?_getD, hj] at h; exact absurd rfl h
  | some x =>
    rw [List.getD_eq_getElem?_getD, hj] at h ⊢
    have := mem_pts (p := p) (n := 0) hj h
    rw [Nat.zero_add] at this
    exact this
theorem geoL {X1 Y1 X2 Y2 d e : Int} (x1 : 0 < X1) (x2 : 0 < X2) (hd : 0 < d) (h1 : -(Y1 * d) ≤ e * X1) (h2 : Y1 * X2 < Y2 * X1) : -(Y2 * d) < e * X2 := by
  apply Classical.byContradiction
  intro z
  have a := Int.mul_le_mul_of_nonneg_right (show e * X2 ≤ -(Y2 * d) by omega) (Int.le_of_lt x1)
  have b := Int.mul_le_mul_of_nonneg_right h1 (Int.le_of_lt x2)
  have c := Int.mul_lt_mul_of_pos_right h2 hd
  have e1 : e * X2 * X1 = e * X1 * X2 := by grind
  have e2 : -(Y2 * d) * X1 = -(Y2 * X1 * d) := by grind
  have e3 : -(Y1 * d) * X2 = -(Y1 * X2 * d) := by grind
  rw [e1, e2] at a
  rw [e3] at b
  omega
theorem geoR {V Yc W Yb X e : Int} (hv : 0 < V) (hw : 0 < W) (hx : 0 < X) (h1 : Yb * X ≤ e * W) (h2 : Yc * W < Yb * V) : Yc * X < e * V := by
  apply Classical.byContradiction
  intro z
  have a := Int.mul_le_mul_of_nonneg_right (show e * V ≤ Yc * X by omega) (Int.le_of_lt hw)
  have b := Int.mul_le_mul_of_nonneg_right h1 (Int.le_of_lt hv)
  have c := Int.mul_lt_mul_of_pos_right h2 hx
  have e1 : e * V * W = e * W * V := by grind
  have e2 : Yc * X * W = Yc * W * X := by grind
  have e3 : Yb * X * V = Yb * V * X := by grind
  rw [e1, e2] at a
  rw [e3] at b
  omega
theorem slT {A X B Y C Z : Int} (hx : 0 < X) (hy : 0 < Y) (hz : 0 < Z) (h1 : A * Y < B * X) (h2 : B * Z < C * Y) : A * Z < C * X := by
  apply Classical.byContradiction
  intro q
  have a := Int.mul_lt_mul_of_pos_right h1 hz
  have b := Int.mul_lt_mul_of_pos_right h2 hx
  have c := Int.mul_le_mul_of_nonneg_right (show C * X ≤ A * Z by omega) (Int.le_of_lt hy)
  have e1 : A * Y * Z = A * Z * Y := by grind
  have e2 : B * X * Z = B * Z * X := by grind
  have e3 : C * Y * X = C * X * Y := by grind
  rw [e1, e2] at a
  rw [e3] at b
  omega
def LineS (q a c : Pt) : Prop := Abv q a c ∧ ((q.1 < a.1 ∨ c.1 < q.1) → (c.2 - a.2) * (q.1 - a.1) < (q.2 - a.2) * (c.1 - a.1))
theorem chain_pos {S : List Pt} : ∀ {l : List Pt}, Cv S l → ∀ (k : Nat) (c a : Pt), l[k]? = some c → l[k + 1]? = some a → a.1 < c.1 ∧ c ∈ S ∧ a ∈ S
  | [], _, k, _, _, h, _ => by simp at h
  | [x], _, k, _, _, _, h => by simp at h
  | b :: a :: r, h, 0, c, a', h1, h2 => by
    simp at h1 h2
    subst h1 h2
    exact ⟨h.2.1, h.1, h.2.2.2.2.mem _ List.mem_cons_self⟩
  | b :: a :: r, h, k + 1, c, a', h1, h2 => chain_pos h.2.2.2.2 k c a' (by simpa using h1) (by simpa using h2)
theorem chain_sl {S : List Pt} : ∀ {l : List Pt} {b a : Pt} {r : List Pt}, l = b :: a :: r → Cv S l → ∀ (k : Nat) (c a' : Pt), (a :: r)[k]? = some c → (a :: r)[k + 1]? = some a' → (c.2 - a'.2) * (b.1 - a.1) < (b.2 - a.2) * (c.1 - a'.1)
  | _, b, a, [], rfl, h, k, c, a', _, h2 => by simp at h2
  | _, b, a, z :: r, rfl, h, 0, c, a', h1, h2 => by
    simp at h1 h2
    subst h1 h2
    exact h.2.2.2.1 _ rfl
  | _, b, a, z :: r, rfl, h, k + 1, c, a', h1, h2 => by
    have ih := chain_sl (l := a :: z :: r) rfl h.2.2.2.2 k c a' (by simpa using h1) (by simpa using h2)
    have p := chain_pos h.2.2.2.2 (k + 1) c a' h1 h2
    have r1 : (a.2 - z.2) * (b.1 - a.1) < (b.2 - a.2) * (a.1 - z.1) := h.2.2.2.1 _ rfl
    have q := h.2.2.2.2.2.1
    have hb := h.2.1
    exact slT (by omega) (by omega) (by omega) ih r1
theorem chain_glob {S : List Pt} : ∀ {l : List Pt} {b : Pt} {s : List Pt}, l = b :: s → Cv S l → (∀ q ∈ S, ∀ t, l.getLast? = some t → t.1 ≤ q.1) → ∀ (k : Nat) (c a : Pt), l[k]? = some c → l[k + 1]? = some a → ∀ q ∈ S, q.1 ≤ b.1 → LineS q a c
  | _, b, [], rfl, _, _, k, _, _, _, h, _, _, _ => by simp at h
  | _, b, a :: r, rfl, h, hl, k, c, a', h1, h2, q, hq, hqb => by
    have hl' : ∀ q ∈ S, ∀ t, (a :: r).getLast? = some t → t.1 ≤ q.1 := fun q hq t ht => hl q hq t (by rw [List.getLast?_cons_cons]; exact ht)
    have ih := chain_glob (l := a :: r) (b := a) (s := r) rfl h.2.2.2.2 hl'
    have ha : a ∈ S := h.2.2.2.2.mem _ List.mem_cons_self
    cases k with
    | zero =>
      simp at h1 h2
      subst h1 h2
      by_cases hqa : a.1 ≤ q.1
      · exact ⟨h.2.2.1 q hq hqa hqb, fun z => by omega⟩
      · have st : (b.2 - a.2) * (q.1 - a.1) < (q.2 - a.2) * (b.1 - a.1) := by
          cases r with
          | nil =>
            have := hl' q hq a rfl
            omega
          | cons z r' =>
            have i := (ih 0 a z rfl rfl q hq (by omega)).1
            have i : (a.2 - z.2) * (q.1 - z.1) ≤ (q.2 - z.2) * (a.1 - z.1) := i
            have r1 : (a.2 - z.2) * (b.1 - a.1) < (b.2 - a.2) * (a.1 - z.1) := h.2.2.2.1 _ rfl
            have pz := h.2.2.2.2.2.1
            have pb := h.2.1
            have g := geoL (X1 := a.1 - z.1) (Y1 := a.2 - z.2) (X2 := b.1 - a.1) (Y2 := b.2 - a.2) (d := a.1 - q.1) (e := q.2 - a.2) (by omega) (by omega) (by omega) (by
              have e1 : (a.2 - z.2) * (q.1 - z.1) = (a.2 - z.2) * (a.1 - z.1) - (a.2 - z.2) * (a.1 - q.1) := by grind
              have e2 : (q.2 - z.2) * (a.1 - z.1) = (q.2 - a.2) * (a.1 - z.1) + (a.2 - z.2) * (a.1 - z.1) := by grind
              omega) r1
            have e3 : (b.2 - a.2) * (q.1 - a.1) = -((b.2 - a.2) * (a.1 - q.1)) := by grind
            omega
        exact ⟨Int.le_of_lt st, fun _ => st⟩
    | succ k =>
      have h1' : (a :: r)[k]? = some c := by simpa using h1
      have h2' : (a :: r)[k + 1]? = some a' := by simpa using h2
      by_cases hqa : q.1 ≤ a.1
      · exact ih k c a' h1' h2' q hq hqa
      · have la := (ih k c a' h1' h2' a ha (Int.le_refl _)).1
        have la : (c.2 - a'.2) * (a.1 - a'.1) ≤ (a.2 - a'.2) * (c.1 - a'.1) := la
        have lb : (b.2 - a.2) * (q.1 - a.1) ≤ (q.2 - a.2) * (b.1 - a.1) := h.2.2.1 q hq (by omega) hqb
        have sl := chain_sl rfl h k c a' h1' h2'
        have pc := (chain_pos h.2.2.2.2 k c a' h1' h2').1
        have pb := h.2.1
        have g := geoR (V := c.1 - a'.1) (Yc := c.2 - a'.2) (W := b.1 - a.1) (Yb := b.2 - a.2) (X := q.1 - a.1) (e := q.2 - a.2) (by omega) (by omega) (by omega) lb sl
        have e1 : (c.2 - a'.2) * (q.1 - a'.1) = (c.2 - a'.2) * (q.1 - a.1) + (c.2 - a'.2) * (a.1 - a'.1) := by grind
        have e2 : (q.2 - a'.2) * (c.1 - a'.1) = (q.2 - a.2) * (c.1 - a'.1) + (a.2 - a'.2) * (c.1 - a'.1) := by grind
        have st : (c.2 - a'.2) * (q.1 - a'.1) < (q.2 - a'.2) * (c.1 - a'.1) := by omega
        exact ⟨Int.le_of_lt st, fun _ => st⟩
/-- two neighbouring corners are the ends of what is least by their weight -/
theorem corner_Ed {p : Int} {as : List Int} {b : Pt} {s : List Pt} (h : Cv (pts p 0 as) (b :: s)) (hl : ∀ q ∈ pts p 0 as, ∀ t, (b :: s).getLast? = some t → t.1 ≤ q.1) (hb : ∀ q ∈ pts p 0 as, q.1 ≤ b.1) {k : Nat} {c a : Pt} (h1 : (b :: s)[k]? = some c) (h2 : (b :: s)[k + 1]? = some a) :
    ∃ m, Ed p (c.1 - a.1) (a.2 - c.2) (cf as) m a.1 c.1 := by
  obtain ⟨pc, cS, aS⟩ := chain_pos h k c a h1 h2
  have L := fun q hq => chain_glob rfl h hl k c a h1 h2 q hq (hb q hq)
  obtain ⟨c1, c2⟩ := pts_cf cS
  obtain ⟨a1, a2⟩ := pts_cf aS
  refine ⟨(c.1 - a.1) * a.2 + (a.2 - c.2) * a.1, ⟨a1, by rw [a2]⟩, ⟨c1, by rw [c2]; grind⟩, fun k => ?_, fun k hk => ?_⟩
  · by_cases hz : cf as k = 0
    · exact .inl hz
    · refine .inr ?_
      have l : (c.2 - a.2) * (k - a.1) ≤ (vp p (cf as k) - a.2) * (c.1 - a.1) := (L _ (cf_pts hz)).1
      have e1 : (c.2 - a.2) * (k - a.1) = (a.2 - c.2) * a.1 - (a.2 - c.2) * k := by grind
      have e2 : (vp p (cf as k) - a.2) * (c.1 - a.1) = (c.1 - a.1) * vp p (cf as k) - (c.1 - a.1) * a.2 := by grind
      omega
  · by_cases hz : cf as k = 0
    · exact .inl hz
    · refine .inr ?_
      have l : (c.2 - a.2) * (k - a.1) < (vp p (cf as k) - a.2) * (c.1 - a.1) := (L _ (cf_pts hz)).2 hk
      have e1 : (c.2 - a.2) * (k - a.1) = (a.2 - c.2) * a.1 - (a.2 - c.2) * k := by grind
      have e2 : (vp p (cf as k) - a.2) * (c.1 - a.1) = (c.1 - a.1) * vp p (cf as k) - (c.1 - a.1) * a.2 := by grind
      omega
end PM
set_option Elab.async false
set_option linter.all false
set_option maxRecDepth 100000
set_option autoImplicit false
namespace PM
open PySem PySem.Spec L2 PL
open PyProof.Rows hiding St
def prodLin (t b : Int) (as : List Int) : List Int := (List.range (as.length + 1)).map fun (k : Nat) => b * cf as ((k : Int) - 1) + -t * cf as k
theorem prodLin_len (t b : Int) (as : List Int) : (prodLin t b as).length = as.length + 1 := by unfold prodLin; simp
theorem cf_out {as : List Int} {k : Int} (h : k < 0 ∨ (as.length : Int) ≤ k) : cf as k = 0 := by
  unfold cf
  by_cases h0 : 0 ≤ k
  · rw [if_pos h0, List.getD_eq_getElem?_getD, List.getElem?_eq_none (by omega)]; rfl
  · rw [if_neg h0]
theorem cf_prod (t b : Int) (as : List Int) (k : Int) : cf (prodLin t b as) k = linA b t (cf as) k := by
  unfold linA
  by_cases h : 0 ≤ k ∧ k < as.length + 1
  · obtain ⟨j, rfl⟩ : ∃ j : Nat, k = j := ⟨k.toNat, by omega⟩
    rw [cf_nat]
    unfold prodLin
    rw [List.getD_eq_getElem?_getD, List.getElem?_map, List.getElem?_range (by omega)]
    rfl
  · have a : cf (prodLin t b as) k = 0 := cf_out (by rw [prodLin_len]; omega)
    have c : cf as (k - 1) = 0 := cf_out (by omega)
    have d : cf as k = 0 := cf_out (by omega)
    rw [a, c, d]; simp
/-- how many of the fractions have the exponent u / w; how many are nought -/
noncomputable def cntW (p w u : Int) : List (Int × Int) → Int
  | [] => 0
  | (t, b) :: r => cntW p w u r + if t ≠ 0 ∧ w * vp p t = w * vp p b + u then 1 else 0
def cnt0 : List (Int × Int) → Int
  | [] => 0
  | (t, _) :: r => cnt0 r + if t = 0 then 1 else 0
structure Pol (p : Int) (ps : List (Int × Int)) (as : List Int) : Prop where
  len : as.length = ps.length + 1
  top : cf as ps.length ≠ 0
  low : ∀ k, k < cnt0 ps → cf as k = 0
  at0 : cf as (cnt0 ps) ≠ 0
  ed : ∀ w u, 0 < w → ∃ m lo hi, Ed p w u (cf as) m lo hi ∧ hi - lo = cntW p w u ps
theorem Pol.one {p a : Int} (ha : a ≠ 0) : Pol p [] [a] := by
  have c0 : cf [a] 0 = a := by unfold cf; rfl
  have cn : ∀ k, k ≠ 0 → cf [a] k = 0 := fun k hk => cf_out (by simp; omega)
  refine ⟨rfl, by show cf [a] ((0 : Nat) : Int) ≠ 0; rw [show ((0 : Nat) : Int) = 0 from rfl, c0]; exact ha, fun k hk => cn k (by have : k < 0 := hk; omega), by show cf [a] 0 ≠ 0; rw [c0]; exact ha, fun w u hw => ?_⟩
  refine ⟨w * vp p a, 0, 0, ⟨⟨by rw [c0]; exact ha, by rw [c0, Int.mul_zero, Int.add_zero]⟩, ⟨by rw [c0]; exact ha, by rw [c0, Int.mul_zero, Int.add_zero]⟩, fun k => ?_, fun k hk => .inl (cn k (by omega))⟩, rfl⟩
  by_cases hk : k = 0
  · subst hk
    exact .inr (by rw [c0, Int.mul_zero, Int.add_zero]; exact Int.le_refl _)
  · exact .inl (cn k hk)
theorem Pol.step {p : Int} (hp : p ∈ primesL) {ps : List (Int × Int)} {as : List Int} (h : Pol p ps as) {t b : Int} (hb : b ≠ 0) : Pol p ((t, b) :: ps) (prodLin t b as) := by
  have l := h.len
  refine ⟨by rw [prodLin_len, l]; rfl, ?_, fun k hk => ?_, ?_, fun w u hw => ?_⟩
  · rw [cf_prod]
    unfold linA
    have e1 : (((t, b) :: ps).length : Int) - 1 = ps.length := by simp
    have e2 : cf as (((t, b) :: ps).length : Int) = 0 := cf_out (by rw [l]; simp)
    rw [e1, e2, Int.mul_zero, Int.add_zero]
    exact Int.mul_ne_zero hb h.top
  · rw [cf_prod]
    unfold linA
    unfold cnt0 at hk
    by_cases ht : t = 0
    · rw [if_pos ht] at hk
      rw [h.low (k - 1) (by omega), ht]; simp
    · rw [if_neg ht] at hk
      rw [h.low (k - 1) (by omega), h.low k (by omega)]; simp
  · rw [cf_prod]
    unfold linA
    unfold cnt0
    by_cases ht : t = 0
    · rw [if_pos ht, Int.add_sub_cancel, ht]
      simpa using ⟨hb, h.at0⟩
    · rw [if_neg ht, Int.add_zero, h.low _ (by omega)]
      simpa using ⟨ht, h.at0⟩
  · obtain ⟨m, lo, hi, e, d⟩ := h.ed w u hw
    obtain ⟨m', e'⟩ := e.lin hp hw (b := b) (t := t) hb
    have ec : cf (prodLin t b as) = linA b t (cf as) := funext fun k => cf_prod t b as k
    refine ⟨m', _, _, by rw [ec]; exact e', ?_⟩
    unfold cntW stepHi stepLo
    by_cases ht : t = 0
    · rw [if_pos ht, if_pos ht, if_neg (fun z => z.1 ht)]; omega
    · rw [if_neg ht, if_neg ht]
      rcases Int.lt_trichotomy (w * vp p t) (w * vp p b + u) with c | c | c
      · rw [if_pos c, if_neg (show ¬ w * vp p b + u < w * vp p t by omega), if_neg (fun z => by have := z.2; omega)]; omega
      · rw [if_neg (show ¬ w * vp p t < w * vp p b + u by omega), if_neg (show ¬ w * vp p b + u < w * vp p t by omega), if_pos ⟨ht, c⟩]; omega
      · rw [if_neg (show ¬ w * vp p t < w * vp p b + u by omega), if_pos c, if_neg (fun z => by have := z.2; omega)]; omega
end PM
set_option Elab.async false
set_option linter.all false
set_option maxRecDepth 100000
set_option autoImplicit false
namespace PM
open PySem PySem.Spec L2 PL
open PyProof.Rows hiding St
section
variable {p w u : Int}
theorem Ed.le {A : Int → Int} {m lo hi : Int} (h : Ed p w u A m lo hi) : lo ≤ hi := by
  apply Classical.byContradiction
  intro z
  have := (h.gt lo (.inr (by omega))).resolve_left h.lo.1
  have := h.lo.2
  omega
/-- every polynomial has such ends -/
theorem Ed.ex (hw : 0 < w) : ∀ (n : Nat) (A : Int → Int), (∀ k, k < 0 ∨ (n : Int) ≤ k → A k = 0) → (∃ k, A k ≠ 0) → ∃ m lo hi, Ed p w u A m lo hi
  | 0, A, s, ⟨k, hk⟩ => absurd (s k (by omega)) hk
  | n + 1, A, s, hx => by
    by_cases hn : A n = 0
    · refine Ed.ex hw n A (fun k hk => ?_) hx
      by_cases e : k = n
      · rw [e]; exact hn
      · exact s k (by omega)
    · obtain ⟨C, hC⟩ : ∃ C : Int → Int, C = fun k : Int => if k = (n : Int) then 0 else A k := ⟨_, rfl⟩
      have cn : ∀ k : Int, k ≠ (n : Int) → C k = A k := fun k hk => by rw [hC]; exact if_neg hk
      have c0 : C (n : Int) = 0 := by rw [hC]; exact if_pos rfl
      by_cases hz : ∃ k, C k ≠ 0
      · obtain ⟨m, lo, hi, e⟩ := Ed.ex hw n C (fun k hk => by
          by_cases e : k = n
          · rw [e]; exact c0
          · rw [cn k e]; exact s k (by omega)) hz
        have loN : lo ≠ n := fun z => e.lo.1 (by rw [z]; exact c0)
        have hiN : hi ≠ n := fun z => e.hi.1 (by rw [z]; exact c0)
        have l := e.le
        have hiL : hi < n := by
          apply Classical.byContradiction
          intro z
          refine e.hi.1 ?_
          rw [cn hi hiN]
          exact s hi (by omega)
        have eL := e.lo; rw [cn lo loN] at eL
        have eH := e.hi; rw [cn hi hiN] at eH
        obtain ⟨N, hN⟩ : ∃ N, N = w * vp p (A n) + u * n := ⟨_, rfl⟩
        have en : EqW p w u N (A n) n := ⟨hn, hN.symm⟩
        rcases Int.lt_trichotomy N m with c | c | c
        · refine ⟨N, n, n, en, en, fun k => ?_, fun k hk => ?_⟩
          · by_cases z : k = n
            · rw [z]; exact en.ge
            · have := e.ge k; rw [cn k z] at this; exact this.le (by omega)
          · have z : k ≠ n := by omega
            have := e.ge k; rw [cn k z] at this; exact this.lt (by omega)
        · refine ⟨m, lo, n, eL, by rw [← c]; exact en, fun k => ?_, fun k hk => ?_⟩
          · by_cases z : k = n
            · rw [z, ← c]; exact en.ge
            · have := e.ge k; rw [cn k z] at this; exact this
          · have z : k ≠ n := by omega
            have := e.gt k (by omega); rw [cn k z] at this; exact this
        · refine ⟨m, lo, hi, eL, eH, fun k => ?_, fun k hk => ?_⟩
          · by_cases z : k = n
            · rw [z]; exact en.ge.le (by omega)
            · have := e.ge k; rw [cn k z] at this; exact this
          · by_cases z : k = n
            · rw [z]; exact en.ge.lt c
            · have := e.gt k hk; rw [cn k z] at this; exact this
      · refine ⟨w * vp p (A n) + u * n, n, n, ⟨hn, rfl⟩, ⟨hn, rfl⟩, fun k => ?_, fun k hk => ?_⟩
        · by_cases z : k = n
          · rw [z]; exact .inr (Int.le_refl _)
          · refine .inl ?_
            rw [← cn k z]
            exact Classical.byContradiction fun q => hz ⟨k, q⟩
        · have z : k ≠ n := by omega
          refine .inl ?_
          rw [← cn k z]
          exact Classical.byContradiction fun q => hz ⟨k, q⟩
/-- by a greater exponent, the ends stand further down -/
theorem Ed.order {A : Int → Int} {w' u' m lo hi m' lo' hi' : Int} (h : Ed p w u A m lo hi) (h' : Ed p w' u' A m' lo' hi') (hw : 0 < w) (hw' : 0 < w') (hs : u * w' < u' * w) : hi' ≤ lo := by
  have a := (h.ge hi').resolve_left h'.hi.1
  have b := (h'.ge lo).resolve_left h.lo.1
  have a0 := h.lo.2
  have b0 := h'.hi.2
  rw [← a0] at a
  rw [← b0] at b
  apply Classical.byContradiction
  intro z
  have c1 := Int.mul_le_mul_of_nonneg_left a (Int.le_of_lt hw')
  have c2 := Int.mul_le_mul_of_nonneg_left b (Int.le_of_lt hw)
  have c3 := Int.mul_lt_mul_of_pos_right hs (show 0 < hi' - lo by omega)
  have e1 : w' * (w * vp p (A lo) + u * lo) = w * w' * vp p (A lo) + u * w' * lo := by grind
  have e2 : w' * (w * vp p (A hi') + u * hi') = w * w' * vp p (A hi') + u * w' * hi' := by grind
  have e3 : w * (w' * vp p (A hi') + u' * hi') = w * w' * vp p (A hi') + u' * w * hi' := by grind
  have e4 : w * (w' * vp p (A lo) + u' * lo) = w * w' * vp p (A lo) + u' * w * lo := by grind
  have e5 : u * w' * (hi' - lo) = u * w' * hi' - u * w' * lo := by grind
  have e6 : u' * w * (hi' - lo) = u' * w * hi' - u' * w * lo := by grind
  omega
/-- the weights made smaller alike -/
theorem Ed.down {A : Int → Int} {g m lo hi : Int} (hg : 0 < g) (h : Ed p (g * w) (g * u) A m lo hi) : ∃ m', Ed p w u A m' lo hi := by
  have e : ∀ k, g * w * vp p (A k) + g * u * k = g * (w * vp p (A k) + u * k) := fun k => by grind
  have hl := h.lo.2
  rw [e] at hl
  refine ⟨w * vp p (A lo) + u * lo, ⟨h.lo.1, rfl⟩, ⟨h.hi.1, ?_⟩, fun k => ?_, fun k hk => ?_⟩
  · have := h.hi.2
    rw [e, ← hl] at this
    exact Int.eq_of_mul_eq_mul_left (Int.ne_of_gt hg) this
  · by_cases z : A k = 0
    · exact .inl z
    · have := (h.ge k).resolve_left z
      rw [e, ← hl] at this
      exact .inr (Int.le_of_mul_le_mul_left this hg)
  · by_cases z : A k = 0
    · exact .inl z
    · have := (h.gt k hk).resolve_left z
      rw [e, ← hl] at this
      exact .inr (Int.lt_of_mul_lt_mul_left this (Int.le_of_lt hg))
end
theorem srt_last : ∀ {L : List Pt} {b : Pt}, Srt L → L.getLast? = some b → ∀ q ∈ L, q.1 ≤ b.1
  | [], _, _, h, _, _ => by simp at h
  | [x], b, _, h, q, hq => by
    simp at h
    subst h
    rw [List.mem_singleton.mp hq]
    exact Int.le_refl _
  | x :: y :: L, b, s, h, q, hq => by
    rw [List.getLast?_cons_cons] at h
    have ih := srt_last s.2 h
    rcases List.mem_cons.mp hq with rfl | hq
    · have := ih y List.mem_cons_self
      have := s.1
      omega
    · exact ih q hq
theorem srt_head {L : List Pt} {t : Pt} (s : Srt L) (h : L.head? = some t) : ∀ q ∈ L, t.1 ≤ q.1 := fun q hq => by
  cases L with
  | nil => cases hq
  | cons x L =>
    cases h
    rcases List.mem_cons.mp hq with rfl | hq
    · exact Int.le_refl _
    · exact Int.le_of_lt (srt_mem s q hq)
theorem chain_cover {S : List Pt} : ∀ {l : List Pt} {b t : Pt}, Cv S l → l.head? = some b → l.getLast? = some t → ∀ x, t.1 ≤ x → x < b.1 → ∃ (k : Nat) (c a : Pt), l[k]? = some c ∧ l[k + 1]? = some a ∧ a.1 ≤ x ∧ x < c.1
  | [], _, _, _, h, _, _, _, _ => nomatch h
  | [y], b, t, _, h, h2, x, h3, h4 => by
    cases h
    have h2 : some y = some t := h2
    cases h2
    omega
  | y :: a :: r, b, t, h, hb, h2, x, h3, h4 => by
    cases hb
    by_cases z : a.1 ≤ x
    · exact ⟨0, y, a, rfl, rfl, z, h4⟩
    · rw [List.getLast?_cons_cons] at h2
      obtain ⟨k, c, a', e1, e2, e3, e4⟩ := chain_cover h.2.2.2.2 rfl h2 x h3 (by omega)
      exact ⟨k + 1, c, a', by simpa using e1, by simpa using e2, e3, e4⟩
theorem chain_dn {S : List Pt} : ∀ {l : List Pt} {b : Pt}, Cv S l → l.head? = some b → ∀ (k : Nat) (c : Pt), l[k]? = some c → c.1 ≤ b.1
  | [], _, _, h, _, _, _ => nomatch h
  | y :: r, b, _, h, 0, c, hc => by
    cases h
    simp at hc
    rw [hc]
    exact Int.le_refl _
  | [y], b, _, h, k + 1, c, hc => by simp at hc
  | y :: a :: r, b, h, hb, k + 1, c, hc => by
    cases hb
    have := chain_dn h.2.2.2.2 rfl k c (by simpa using hc)
    have := h.2.1
    omega
/-- the pieces between neighbouring corners -/
def pcsD : List Pt → DL
  | b :: a :: r => ((ftop (a.2 - b.2) (b.1 - a.1), fbot (a.2 - b.2) (b.1 - a.1)), b.1 - a.1) :: pcsD (a :: r)
  | _ => []
def pcD (e : (Int × Int) × Int) : PV := .tup [kP e.1, .int e.2]
theorem pcs_D : ∀ l : List Pt, pcsV l = (pcsD l).map pcD
  | [] => rfl
  | [x] => rfl
  | b :: a :: r => by
    rw [pcsV, pcsD, List.map_cons, pcs_D (a :: r)]
    rfl
theorem mem_pcsD {e : (Int × Int) × Int} : ∀ {l : List Pt}, e ∈ pcsD l ↔ ∃ (k : Nat) (c a : Pt), l[k]? = some c ∧ l[k + 1]? = some a ∧ e = ((ftop (a.2 - c.2) (c.1 - a.1), fbot (a.2 - c.2) (c.1 - a.1)), c.1 - a.1)
  | [] => by simp [pcsD]
  | [x] => by simp [pcsD]
  | b :: a :: r => by
    rw [pcsD, List.mem_cons, mem_pcsD (l := a :: r)]
    constructor
    · rintro (rfl | ⟨k, c, a', h1, h2, rfl⟩)
      · exact ⟨0, b, a, rfl, rfl, rfl⟩
      · exact ⟨k + 1, c, a', by simpa using h1, by simpa using h2, rfl⟩
    · rintro ⟨k, c, a', h1, h2, rfl⟩
      cases k with
      | zero =>
        simp at h1 h2
        subst h1 h2
        exact .inl rfl
      | succ k => exact .inr ⟨k, c, a', by simpa using h1, by simpa using h2, rfl⟩
theorem pcsD_nd {p : Int} {A : Int → Int} {S : List Pt} : ∀ {l : List Pt}, Cv S l → (∀ (k : Nat) (c a : Pt), l[k]? = some c → l[k + 1]? = some a → ∃ m, Ed p (fbot (a.2 - c.2) (c.1 - a.1)) (ftop (a.2 - c.2) (c.1 - a.1)) A m a.1 c.1) → ((pcsD l).map (·.1)).Nodup
  | [], _, _ => .nil
  | [x], _, _ => .nil
  | b :: a :: r, h, hE => by
    rw [pcsD, List.map_cons, List.nodup_cons]
    refine ⟨fun z => ?_, pcsD_nd h.2.2.2.2 fun k c a' h1 h2 => hE (k + 1) c a' (by simpa using h1) (by simpa using h2)⟩
    obtain ⟨e, he, ee⟩ := List.mem_map.mp z
    obtain ⟨k, c, a', h1, h2, rfl⟩ := mem_pcsD.mp he
    obtain ⟨m, e1⟩ := hE 0 b a rfl rfl
    obtain ⟨m', e2⟩ := hE (k + 1) c a' (by simpa using h1) (by simpa using h2)
    have ee : (ftop (a'.2 - c.2) (c.1 - a'.1), fbot (a'.2 - c.2) (c.1 - a'.1)) = (ftop (a.2 - b.2) (b.1 - a.1), fbot (a.2 - b.2) (b.1 - a.1)) := ee
    injection ee with q1 q2
    rw [q1, q2] at e2
    have u := (e1.uniq e2).2.1
    have d := chain_dn h.2.2.2.2 rfl k c h1
    have p := (chain_pos h.2.2.2.2 k c a' h1 h2).1
    omega
/-- what sizes_of tells -/
structure Told (p : Int) (as : List Int) (N : Int) (l : DL) : Prop where
  eq : F_sizes_of [.int p, .lst (as.map PV.int)] = .ok (.tup [.int N, .lst (l.map pcD)])
  nd : (l.map (·.1)).Nodup
  ed : ∀ e ∈ l, 0 < e.2 ∧ 0 < e.1.2 ∧ Int.gcd e.1.1 e.1.2 = 1 ∧ ∃ m lo, Ed p e.1.2 e.1.1 (cf as) m lo (lo + e.2)
  all : ∀ t b m lo hi, 0 < b → Int.gcd t b = 1 → Ed p b t (cf as) m lo hi → lo < hi → ((t, b), hi - lo) ∈ l
  low : cf as N ≠ 0 ∧ ∀ k, k < N → cf as k = 0
  len : l.length < 9
theorem pcsD_len : ∀ (l : List Pt), (pcsD l).length = l.length - 1
  | [] => rfl
  | [x] => rfl
  | b :: a :: r => by
    rw [pcsD, List.length_cons, pcsD_len (a :: r)]
    simp
theorem told_any {p : Int} (hp : p ∈ primesL) {as : List Int} (h : PolyI as) (hb : ∀ a ∈ as, a.natAbs < 2 ^ 1000) : ∃ N l, Told p as N l := by
  obtain ⟨b, s, e1, cv, sm, l9, last, first, srt, fp, fc, fs⟩ := f_told hp h hb
  have top := srt_last srt last
  obtain ⟨t, ht⟩ : ∃ t, (b :: s).getLast? = some t := ⟨_, List.getLast?_eq_some_getLast (by simp)⟩
  have tl : (b :: s).getLast (by simp) = t := by
    rw [List.getLast?_eq_some_getLast (by simp)] at ht
    exact Option.some.inj ht
  rw [ht] at first
  have low := srt_head srt first
  have lowt : ∀ q ∈ pts p 0 as, ∀ t', (b :: s).getLast? = some t' → t'.1 ≤ q.1 := fun q hq t' h' => by
    rw [ht] at h'
    cases h'
    exact low q hq
  have hE : ∀ (k : Nat) (c a : Pt), (b :: s)[k]? = some c → (b :: s)[k + 1]? = some a → ∃ m, Ed p (fbot (a.2 - c.2) (c.1 - a.1)) (ftop (a.2 - c.2) (c.1 - a.1)) (cf as) m a.1 c.1 := fun k c a h1 h2 => by
    obtain ⟨m, e⟩ := corner_Ed cv lowt top h1 h2
    have pc := (chain_pos cv k c a h1 h2).1
    have f1 := ftop_mul (a.2 - c.2) (c.1 - a.1)
    have f2 := fbot_mul (a.2 - c.2) (c.1 - a.1)
    have f3 : 0 < PM.fs (a.2 - c.2) (c.1 - a.1) := by
      have := fbot_pos (t := a.2 - c.2) (b := c.1 - a.1) (by omega)
      apply Classical.byContradiction
      intro z
      have := Int.mul_nonneg (Int.le_of_lt this) (show 0 ≤ -PM.fs (a.2 - c.2) (c.1 - a.1) by omega)
      rw [Int.mul_neg, f2] at this
      omega
    generalize hg : PM.fs (a.2 - c.2) (c.1 - a.1) = g at f1 f2 f3
    refine Ed.down (g := g) f3 (m := m) ?_
    rw [Int.mul_comm g, f2, Int.mul_comm g, f1]
    exact e
  have tm : t ∈ pts p 0 as := List.mem_of_mem_head? (by rw [first]; rfl)
  refine ⟨t.1, pcsD (b :: s), by rw [fs, tl, pcs_D], pcsD_nd cv hE, fun e he => ?_, fun t' b' m lo hi hb' hg e lt => ?_, ⟨(pts_cf tm).1, fun k hk => ?_⟩, by rw [pcsD_len]; simp; omega⟩
  · obtain ⟨k, c, a, h1, h2, rfl⟩ := mem_pcsD.mp he
    have pc := (chain_pos cv k c a h1 h2).1
    obtain ⟨m, e⟩ := hE k c a h1 h2
    refine ⟨by show 0 < c.1 - a.1; omega, fbot_pos (by omega), flow (by omega), m, a.1, ?_⟩
    show Ed p _ _ _ m a.1 (a.1 + (c.1 - a.1))
    rw [show a.1 + (c.1 - a.1) = c.1 by omega]
    exact e
  · have l1 := low _ (cf_pts (p := p) e.lo.1)
    have l2 := top _ (cf_pts (p := p) e.hi.1)
    have l1 : t.1 ≤ lo := l1
    have l2 : hi ≤ b.1 := l2
    obtain ⟨k, c, a, h1, h2, x1, x2⟩ := chain_cover cv rfl ht lo l1 (by omega)
    obtain ⟨m', e'⟩ := hE k c a h1 h2
    have pc := (chain_pos cv k c a h1 h2).1
    have fb := fbot_pos (t := a.2 - c.2) (b := c.1 - a.1) (by omega)
    have cr := fcross (a.2 - c.2) (c.1 - a.1)
    generalize hX : ftop (a.2 - c.2) (c.1 - a.1) = X at *
    generalize hY : fbot (a.2 - c.2) (c.1 - a.1) = Y at *
    rcases Int.lt_trichotomy (t' * Y) (X * b') with q | q | q
    · have := e.order e' hb' fb q
      omega
    · obtain ⟨z1, z2⟩ := low_uniq (T := a.2 - c.2) (B := c.1 - a.1) (t := t') (b := b') (by omega) hb' hg (by
        have fbn : Y ≠ 0 := by omega
        refine Int.eq_of_mul_eq_mul_right fbn ?_
        have : (a.2 - c.2) * b' * Y = (a.2 - c.2) * Y * b' := by grind
        rw [this, ← cr]
        have : t' * (c.1 - a.1) * Y = t' * Y * (c.1 - a.1) := by grind
        rw [this, q]
        grind)
      rw [hX] at z1
      rw [hY] at z2
      rw [z1, z2] at e'
      obtain ⟨_, u1, u2⟩ := e.uniq e'
      refine mem_pcsD.mpr ⟨k, c, a, h1, h2, ?_⟩
      rw [hX, hY, z1, z2, u1, u2]
    · have := e'.order e fb hb' q
      omega
  · apply Classical.byContradiction
    intro z
    have := low _ (cf_pts (p := p) z)
    have : t.1 ≤ k := this
    omega
end PM
set_option Elab.async false
set_option linter.all false
set_option maxRecDepth 100000
set_option autoImplicit false
namespace PM
open PySem PySem.Spec L2 PL
open PyProof.Rows hiding St
def keysD (d : DL) : List (Int × Int) := d.map (·.1)
def smD : DL → (Int × Int) → Int
  | [], _ => 0
  | e :: L, k => (if e.1 = k then e.2 else 0) + smD L k
theorem val_cons (e : (Int × Int) × Int) (d : DL) (k : Int × Int) : valD (e :: d) k = if e.1 = k then some e.2 else valD d k := by
  unfold valD
  rw [List.find?_cons]
  by_cases h : e.1 = k
  · rw [decide_eq_true h, if_pos h]; rfl
  · rw [decide_eq_false h, if_neg h]
theorem val_none {d : DL} {k : Int × Int} : valD d k = none ↔ k ∉ keysD d := by
  induction d with
  | nil => exact ⟨fun _ z => (nomatch z), fun _ => rfl⟩
  | cons e d ih =>
    rw [val_cons]
    show _ ↔ k ∉ e.1 :: keysD d
    rw [List.mem_cons, not_or, ← ih]
    by_cases h : e.1 = k
    · rw [if_pos h]
      exact ⟨fun z => (nomatch z), fun z => absurd h.symm z.1⟩
    · rw [if_neg h]
      exact ⟨fun z => ⟨fun q => h q.symm, z⟩, fun z => z.2⟩
theorem val_app (d r : DL) (k : Int × Int) : valD (d ++ r) k = (valD d k).or (valD r k) := by
  induction d with
  | nil => rfl
  | cons e d ih =>
    rw [List.cons_append, val_cons, val_cons, ih]
    by_cases h : e.1 = k
    · rw [if_pos h, if_pos h]; rfl
    · rw [if_neg h, if_neg h]
theorem any_key (d : DL) (k : Int × Int) : ((d.any fun e => decide (e.1 = k)) = true) ↔ k ∈ keysD d := by
  rw [List.any_eq_true]
  unfold keysD
  rw [List.mem_map]
  exact ⟨fun ⟨e, h, z⟩ => ⟨e, h, of_decide_eq_true z⟩, fun ⟨e, h, z⟩ => ⟨e, h, decide_eq_true z⟩⟩
theorem val_put (d : DL) (k k' : Int × Int) (v : Int) : valD (putD d k v) k' = if k' = k then some v else valD d k' := by
  unfold putD
  by_cases h : (d.any fun e => decide (e.1 = k)) = true
  · rw [if_pos h]
    have hk := (any_key d k).mp h
    clear h
    induction d with
    | nil => exact nomatch hk
    | cons e d ih =>
      rw [List.map_cons, val_cons, val_cons]
      by_cases q : e.1 = k
      · rw [if_pos q]
        show (if e.1 = k' then some v else _) = _
        by_cases r : k' = k
        · rw [if_pos r, if_pos (q.trans r.symm)]
        · rw [if_neg r, if_neg (fun z => r (z.symm.trans q)), if_neg (fun z => r (z.symm.trans q))]
          have : ∀ d : DL, valD (d.map fun e => if e.1 = k then (e.1, v) else e) k' = valD d k' := fun d => by
            induction d with
            | nil => rfl
            | cons f d ih2 =>
              rw [List.map_cons, val_cons, val_cons, ih2]
              by_cases f1 : f.1 = k
              · rw [if_pos f1]
                show (if f.1 = k' then some v else _) = _
                rw [if_neg (fun z => r (z.symm.trans f1)), if_neg (fun z => r (z.symm.trans f1))]
              · rw [if_neg f1]
          exact this d
      · rw [if_neg q]
        have hk : k ∈ keysD d := (List.mem_cons.mp hk).resolve_left fun z => q z.symm
        rw [ih hk]
        by_cases r : k' = k
        · rw [if_pos r, if_pos r, if_neg (fun z => q (z.trans r))]
        · rw [if_neg r, if_neg r]
  · rw [if_neg h]
    have hk : k ∉ keysD d := fun z => h ((any_key d k).mpr z)
    rw [val_app, val_cons]
    show (valD d k').or (if k = k' then some v else none) = _
    by_cases r : k' = k
    · rw [if_pos r, if_pos r.symm, r, val_none.mpr hk]; rfl
    · rw [if_neg r, if_neg (fun z => r z.symm)]
      cases valD d k' <;> rfl
theorem sm_out {L : DL} {k : Int × Int} (h : k ∉ keysD L) : smD L k = 0 := by
  induction L with
  | nil => rfl
  | cons e L ih =>
    have h : k ∉ e.1 :: keysD L := h
    rw [List.mem_cons, not_or] at h
    show (if e.1 = k then e.2 else 0) + smD L k = 0
    rw [if_neg (fun z => h.1 z.symm), ih h.2]; rfl
theorem sm_in {L : DL} (h : (keysD L).Nodup) {e : (Int × Int) × Int} (he : e ∈ L) : smD L e.1 = e.2 := by
  induction L with
  | nil => cases he
  | cons f L ih =>
    have h : (f.1 :: keysD L).Nodup := h
    rw [List.nodup_cons] at h
    show (if f.1 = e.1 then f.2 else 0) + smD L e.1 = e.2
    rcases List.mem_cons.mp he with rfl | he
    · rw [if_pos rfl, sm_out h.1, Int.add_zero]
    · rw [if_neg (fun z => h.1 (by rw [z]; exact List.mem_map.mpr ⟨e, he, rfl⟩)), ih h.2 he, Int.zero_add]
/-- how many are told by an exponent in lowest terms -/
theorem Told.at {p : Int} {as : List Int} {N : Int} {l : DL} (h : Told p as N l) {k : Int × Int} (hb : 0 < k.2) (hg : Int.gcd k.1 k.2 = 1) : ∃ m lo, Ed p k.2 k.1 (cf as) m lo (lo + smD l k) ∧ (k ∈ keysD l ↔ 0 < smD l k) := by
  have sup : ∀ i : Int, i < 0 ∨ (as.length : Int) ≤ i → cf as i = 0 := fun i hi => by
    unfold cf
    split
    · have := List.getElem?_eq_none (l := as) (i := i.toNat) (by omega)
      rw [List.getD_eq_getElem?_getD, this]; rfl
    · rfl
  obtain ⟨m, lo, hi, e⟩ := Ed.ex (p := p) (w := k.2) (u := k.1) hb as.length (cf as) sup ⟨N, h.low.1⟩
  by_cases z : lo < hi
  · have mem := h.all k.1 k.2 m lo hi hb hg e z
    have s := sm_in h.nd mem
    have s : smD l k = hi - lo := s
    refine ⟨m, lo, by rw [s, show lo + (hi - lo) = hi by omega]; exact e, ⟨fun _ => by omega, fun _ => List.mem_map.mpr ⟨_, mem, rfl⟩⟩⟩
  · have le := e.le
    have no : k ∉ keysD l := fun q => by
      obtain ⟨f, hf, rfl⟩ := List.mem_map.mp q
      obtain ⟨f1, f2, f3, m', lo', e'⟩ := h.ed f hf
      obtain ⟨_, u1, u2⟩ := e.uniq e'
      omega
    have s := sm_out no
    refine ⟨m, lo, by rw [s, Int.add_zero, show lo = hi by omega] ; rw [show hi = lo by omega]; rw [show lo = hi by omega] at e ⊢; exact e, ⟨fun q => absurd q no, fun q => by omega⟩⟩
end PM
set_option Elab.async false
set_option linter.all false
set_option maxRecDepth 100000
set_option autoImplicit false
namespace PM
open PySem PySem.Spec L2 PL
open PyProof.Rows hiding St
theorem at0_cf (cs : List Int) (i : Nat) : cf cs i = at0 cs i := cf_nat cs i
theorem at0_head (c : Int) (l : List Int) : at0 (c :: l) 0 = c := rfl
/-- (x - d) h + v, number by number -/
theorem cf_lin {d v : Int} {cs h : List Int} (e : syn d cs = v :: h) (k : Int) : cf cs k = linA 1 d (cf h) k + if k = 0 then v else 0 := by
  have il := is_lin e
  unfold linA
  rcases Int.lt_trichotomy k 0 with z | z | z
  · rw [cf_out (as := cs) (k := k) (.inl z), cf_out (as := h) (k := k - 1) (.inl (by omega)), cf_out (as := h) (k := k) (.inl z), if_neg (by omega)]; simp
  · subst z
    rw [cf_out (as := h) (k := 0 - 1) (.inl (by omega)), if_pos rfl]
    have a0 : cf cs ((0 : Nat) : Int) = at0 cs 0 := at0_cf cs 0
    have b0 : cf h ((0 : Nat) : Int) = at0 h 0 := at0_cf h 0
    have a0 : cf cs 0 = at0 cs 0 := a0
    have b0 : cf h 0 = at0 h 0 := b0
    rw [a0, b0, il]
    cases h with
    | nil => rw [lin, at0_head]; simp [at0]
    | cons g gs => rw [lin, at0_head, at0_head]; omega
  · obtain ⟨i, rfl⟩ : ∃ i : Nat, k = ((i + 1 : Nat) : Int) := ⟨(k - 1).toNat, by omega⟩
    rw [if_neg (by omega), at0_cf, at0_cf h (i + 1), show (((i + 1 : Nat) : Int) - 1) = (i : Int) by omega, at0_cf h i, il]
    rw [lin_at]
    omega
section
variable {p w u : Int}
/-- a number that weighs more, put to the first number -/
theorem Ed.plus {A B : Int → Int} {m lo hi v : Int} (hp : 2 ≤ p) (hw : 0 < w) (h : Ed p w u A m lo hi) (hB : ∀ k, B k = A k + if k = 0 then v else 0) (hv : v = 0 ∨ m < w * vp p v) : Ed p w u B m lo hi := by
  have g : ∀ k, GtW p w u m (if k = 0 then v else 0) k := fun k => by
    by_cases z : k = 0
    · rw [if_pos z, z]
      exact hv.elim .inl fun q => .inr (by rw [Int.mul_zero, Int.add_zero]; exact q)
    · rw [if_neg z]; exact .inl rfl
  refine ⟨?_, ?_, fun k => ?_, fun k hk => ?_⟩
  · rw [hB]; exact h.lo.add hp hw (g lo)
  · rw [hB]; exact h.hi.add hp hw (g hi)
  · rw [hB]; exact (h.ge k).add hp hw (g k).ge
  · rw [hB]; exact (h.gt k hk).add hp hw (g k)
end
theorem vp_dvd {p n : Int} {a : Nat} (hp : 2 ≤ p) (hn : n ≠ 0) (h : p ^ a ∣ n) : (a : Int) ≤ vp p n := by
  obtain ⟨m, v, e, hm, ev⟩ := vp_spec hp hn
  rw [ev]
  apply Classical.byContradiction
  intro z
  obtain ⟨c, hc⟩ : ∃ c, a = v + (c + 1) := ⟨a - v - 1, by omega⟩
  obtain ⟨q, hq⟩ := h
  rw [hc] at hq
  have : m * p ^ v = p ^ c * q * p * p ^ v := by
    rw [← e, hq, Int.pow_add, Int.pow_succ]
    grind
  have := Int.eq_of_mul_eq_mul_right (Int.ne_of_gt (Int.pow_pos (by omega))) this
  rw [this, Int.mul_emod_left] at hm
  exact hm rfl
theorem vp_ndvd {p n : Int} {a : Nat} (hp : 2 ≤ p) (hn : n ≠ 0) (h : (a : Int) ≤ vp p n) : p ^ a ∣ n := by
  obtain ⟨m, v, e, hm, ev⟩ := vp_spec hp hn
  rw [ev] at h
  obtain ⟨c, hc⟩ : ∃ c, v = a + c := ⟨v - a, by omega⟩
  exact ⟨m * p ^ c, by rw [e, hc, Int.pow_add]; grind⟩
theorem syn_last {d v : Int} : ∀ {cs h : List Int}, syn d cs = v :: h → h ≠ [] → h.getLast? = cs.getLast?
  | [], _, e, _ => nomatch e
  | [c], h, e, n => by
    rw [syn] at e
    injection e with _ e
    exact absurd e.symm n
  | c :: c2 :: r, h, e, n => by
    rw [syn] at e
    injection e with _ e
    have e2 : syn d (c2 :: r) = (c2 + d * (syn d r).headD 0) :: syn d r := rfl
    rw [List.getLast?_cons_cons, ← e, e2]
    by_cases q : syn d r = []
    · have : r = [] := List.length_eq_zero_iff.mp (by rw [← syn_len d r, q]; rfl)
      subst this
      rw [q]
      show some (c2 + d * ([] : List Int).headD 0) = some c2
      simp
    · obtain ⟨y, ys, hy⟩ : ∃ y ys, syn d r = y :: ys := by
        cases hh : syn d r with
        | nil => exact absurd hh q
        | cons y ys => exact ⟨y, ys, rfl⟩
      rw [hy, List.getLast?_cons_cons, ← hy]
      exact syn_last (cs := c2 :: r) (v := c2 + d * (syn d r).headD 0) e2 q
/-- roots apart, of one whole exponent e: the line has so many places there -/
theorem count_roots {p : Int} (hp : p ∈ primesL) {e : Int} (e0 : 0 ≤ e) (e1 : e ≤ 1000) {L : Int} (L0 : L ≠ 0) (L1 : vp p L ≤ 1000) : ∀ (rs : List Int) (cs : List Int), cs.length ≤ 9 → cs.getLast? = some L → (∀ r ∈ rs, r ≠ 0 ∧ vp p r = e ∧ p ^ (20000 + 100 * rs.length) ∣ ev cs r) → rs.Pairwise (fun r r' => ¬ p ^ 100 ∣ r' - r) →
    ∃ m lo hi, Ed p 1 e (cf cs) m lo hi ∧ (rs.length : Int) ≤ hi - lo
  | [], cs, h9, hL, _, _ => by
    have nz : cf cs ((cs.length : Int) - 1) ≠ 0 := by
      have : cs ≠ [] := fun z => by rw [z] at hL; cases hL
      have l1 : 1 ≤ cs.length := by cases cs with
        | nil => exact absurd rfl this
        | cons c r => simp
      rw [show (cs.length : Int) - 1 = ((cs.length - 1 : Nat) : Int) by omega, cf_nat, List.getD_eq_getElem?_getD, ← List.getLast?_eq_getElem?, hL]
      exact L0
    obtain ⟨m, lo, hi, ed⟩ := Ed.ex (p := p) (w := 1) (u := e) (by omega) cs.length (cf cs) (fun k hk => cf_out hk) ⟨_, nz⟩
    exact ⟨m, lo, hi, ed, by have := ed.le; simp; omega⟩
  | r :: rs, cs, h9, hL, hr, hpw => by
    have hp2 := (primesL_le p hp).1
    obtain ⟨r0, re, rd⟩ := hr r List.mem_cons_self
    rw [List.length_cons] at hr rd
    have hpw := List.pairwise_cons.mp hpw
    -- cs = (x - r) h + v
    obtain ⟨v, h, es⟩ : ∃ v h, syn r cs = v :: h := by
      cases q : syn r cs with
      | nil =>
        have := syn_len r cs
        rw [q] at this
        have : cs = [] := List.length_eq_zero_iff.mp this.symm
        rw [this] at hL; cases hL
      | cons v h => exact ⟨v, h, rfl⟩
    have vr : ev cs r = v := by
      have := ev_split (x := r) es
      rw [Int.sub_self, Int.zero_mul, Int.add_zero] at this
      exact this
    have hne : h ≠ [] := fun q => by
      have il := is_lin es
      rw [q] at il
      have il : cs = [v] := il
      rw [il] at hL
      have hL : some v = some L := hL
      rw [vr] at rd
      rw [Option.some.inj hL] at rd
      have := vp_dvd hp2 L0 rd
      omega
    have hl : h.length + 1 = cs.length := by rw [← syn_len r cs, es, List.length_cons]
    have hL' : h.getLast? = some L := (syn_last es hne).trans hL
    obtain ⟨m, lo, hi, ed, cnt⟩ := count_roots hp e0 e1 L0 L1 rs h (by omega) hL' (fun r' hr' => by
      obtain ⟨a, b, c⟩ := hr r' (List.mem_cons_of_mem _ hr')
      refine ⟨a, b, ?_⟩
      have sp := ev_split (x := r') es
      have dv : p ^ (20000 + 100 * rs.length + 100) ∣ (r' - r) * ev h r' := by
        have e3 : (r' - r) * ev h r' = ev cs r' - v := by omega
        rw [e3, ← vr]
        rw [show 20000 + 100 * (rs.length + 1) = 20000 + 100 * rs.length + 100 by omega] at c rd
        exact Int.dvd_sub c rd
      apply Classical.byContradiction
      intro z
      exact ndvd_mul hp z (hpw.1 r' hr') (by
        rw [Int.mul_comm]
        exact dv)) hpw.2
    obtain ⟨m', ed'⟩ := ed.lin hp (by omega) (b := 1) (t := r) (by decide)
    have v1 : vp p 1 = 0 := (vp_of (m := 1) (v := 0) hp2 (by simp) (by rw [Int.emod_eq_of_lt (by omega) (by omega)]; decide)).2
    have s1 : stepLo p 1 e 1 r = 0 := by
      unfold stepLo
      rw [if_neg r0, v1, re, if_neg (by omega)]
    have s2 : stepHi p 1 e 1 r = 1 := by
      unfold stepHi
      rw [if_neg r0, v1, re, if_neg (by omega)]
    rw [s1, s2, Int.add_zero] at ed'
    have top : m' ≤ 1000 + 1000 * 9 := by
      have k0 : cf h ((h.length : Int) - 1) = L := by
        have l1 : 1 ≤ h.length := by cases h with
          | nil => exact absurd rfl hne
          | cons c r => simp
        rw [show (h.length : Int) - 1 = ((h.length - 1 : Nat) : Int) by omega, cf_nat, List.getD_eq_getElem?_getD, ← List.getLast?_eq_getElem?, hL']
        rfl
      have kl : linA 1 r (cf h) h.length = L := by
        unfold linA
        rw [k0, cf_out (as := h) (k := (h.length : Int)) (.inr (Int.le_refl _))]; simp
      have g := ed'.ge h.length
      rw [kl] at g
      have g := g.resolve_left L0
      have : e * (h.length : Int) ≤ 1000 * 9 := Int.mul_le_mul e1 (by omega) (by omega) (by omega)
      omega
    refine ⟨m', lo, hi + 1, ed'.plus hp2 (by omega) (cf_lin es) ?_, by rw [List.length_cons]; omega⟩
    by_cases v0 : v = 0
    · exact .inl v0
    · refine .inr ?_
      rw [vr] at rd
      have := vp_dvd hp2 v0 rd
      omega
end PM
set_option Elab.async false
set_option linter.all false
set_option maxRecDepth 100000
set_option autoImplicit false
namespace PM
open PySem PySem.Spec L2 PL
open PyProof.Rows hiding St
/-- x carries the row's stem on, its worth is divided k + J times -/
def Carr (p : Int) (cs : List Int) (r : Row) (k J : Nat) (x : Int) : Prop := (∃ z, x = sm p r.stem + p ^ r.stem.length * z) ∧ p ^ (k + J) ∣ ev cs x
theorem unit_vp {p u : Int} (hp : 2 ≤ p) (hu : u % p ≠ 0) : u ≠ 0 ∧ vp p u = 0 := by
  have := vp_of (p := p) (n := u) (m := u) (v := 0) hp (by simp) hu
  exact ⟨this.1, this.2⟩
/-- a row that tells one: roots as deep as one likes, each the next -/
theorem row_deep {p : Int} (hp : p ∈ primesL) {cs : List Int} {n : Nat} {r : Row} {s : List Int} {d : Int} (h : NzL cs) (Ro : RowAt p cs n r s d) (hw : r.word = wOne) :
    ∃ k : Nat, r.num = k ∧ (∀ J : Nat, r.stem.length ≤ J → ∃ x, Carr p cs r k J x) ∧ ∀ (J : Nat) (x y : Int), Carr p cs r k J x → Carr p cs r k J y → p ^ J ∣ x - y := by
  have hp2 := (primesL_le p hp).1
  obtain ⟨k, c, ek, nc, _, ew, ho⟩ := row_one' hp2 h Ro hw
  refine ⟨k, ek, fun J hJ => ?_, fun J x y ⟨⟨z, hz⟩, wx⟩ ⟨⟨w, hw'⟩, wy⟩ => ?_⟩
  · obtain ⟨t, ht⟩ := solve hp nc 1 1
    rw [Int.pow_one] at ht
    have ht' : t * c % p = 1 := by
      obtain ⟨q, hq⟩ := ht
      have : t * c = 1 + p * q := by rw [Int.mul_comm]; omega
      rw [this, Int.add_mul_emod_self_left, Int.emod_eq_of_lt (by omega) (by omega)]
    have sL := sm_lt (p := p) hp2 r.stem Ro.digs
    have H := hen_ok (t := t) hp2 ht' ho sL.1 sL.2 ew (J - r.stem.length)
    obtain ⟨z, hz⟩ := H.stem
    obtain ⟨a, ha⟩ := H.worth
    refine ⟨_, ⟨z, hz⟩, a, ?_⟩
    rw [ha, show r.stem.length + (J - r.stem.length) = J by omega]
  · obtain ⟨u, hu, hc⟩ := ho z w
    rw [← hz, ← hw'] at hu
    have hun : u % p ≠ 0 := unit_of_cong hc nc
    obtain ⟨u0, uv⟩ := unit_vp hp2 hun
    by_cases e : x - y = 0
    · rw [e]; exact ⟨0, by simp⟩
    · have dv := Int.dvd_sub wx wy
      rw [hu] at dv
      have exy : x - y = p ^ r.stem.length * (z - w) := by rw [hz, hw']; grind
      rw [← exy] at dv
      have pk : p ^ k ≠ 0 := Int.pow_ne_zero (by omega)
      have dv2 : p ^ J ∣ (x - y) * u := by
        obtain ⟨q, hq⟩ := dv
        refine ⟨q, Int.eq_of_mul_eq_mul_left pk ?_⟩
        rw [Int.pow_add] at hq
        grind
      have v := vp_dvd hp2 (Int.mul_ne_zero e u0) dv2
      rw [vp_mul hp e u0, uv] at v
      exact vp_ndvd hp2 e (by omega)
theorem sm_mid (p : Int) : ∀ (c : List Int) (x : Int) (y : List Int), sm p (c ++ x :: y) = sm p c + p ^ c.length * (x + p * sm p y)
  | [], x, y => by simp [sm]
  | g :: c, x, y => by
    rw [List.cons_append, sm, sm, sm_mid p c x y, List.length_cons, Int.pow_succ]
    grind
/-- numbers that carry on stems that part -/
theorem apart {p : Int} (hp : 2 ≤ p) {a b : List Int} (h : Apt a b) (ha : ∀ d ∈ a, 0 ≤ d ∧ d < p) (hb : ∀ d ∈ b, 0 ≤ d ∧ d < p) (l : a.length ≤ 90) (z w : Int) : ¬ p ^ 100 ∣ (sm p b + p ^ b.length * w) - (sm p a + p ^ a.length * z) := by
  obtain ⟨c, d1, u, d2, v, rfl, rfl, hd⟩ := h
  have D1 := ha d1 (by simp)
  have D2 := hb d2 (by simp)
  have smc := fun (x : Int) (y : List Int) => sm_mid p c x y
  intro hdv
  rw [smc, smc] at hdv
  have lc : c.length + 1 ≤ 100 := by simp at l; omega
  have e : (sm p c + p ^ c.length * (d2 + p * sm p v) + p ^ (c ++ d2 :: v).length * w) - (sm p c + p ^ c.length * (d1 + p * sm p u) + p ^ (c ++ d1 :: u).length * z) = p ^ c.length * ((d2 - d1) + p * (sm p v + p ^ v.length * w - sm p u - p ^ u.length * z)) := by
    have pw : ∀ m n : Nat, p ^ (m + (n + 1)) = p ^ m * (p * p ^ n) := fun m n => by rw [Int.pow_add, Int.pow_succ, Int.mul_comm (p ^ n)]
    rw [List.length_append, List.length_append, List.length_cons, List.length_cons, pw, pw]
    generalize p ^ c.length = C
    generalize p ^ v.length = V
    generalize p ^ u.length = U
    grind
  rw [e] at hdv
  obtain ⟨q, hq⟩ := hdv
  obtain ⟨g, hg⟩ : ∃ g, 100 = c.length + (g + 1) := ⟨100 - c.length - 1, by omega⟩
  rw [hg, Int.pow_add, Int.mul_assoc] at hq
  have hq := Int.eq_of_mul_eq_mul_left (show p ^ c.length ≠ 0 from Int.pow_ne_zero (by omega)) hq
  rw [Int.pow_succ] at hq
  have : d2 - d1 = p * (p ^ g * q - (sm p v + p ^ v.length * w - sm p u - p ^ u.length * z)) := by grind
  have m : (d2 - d1) % p = 0 := by rw [this, Int.mul_emod_right]
  rw [Int.emod_eq_of_lt (by omega) (by omega)] at m
  omega
end PM
set_option Elab.async false
set_option linter.all false
set_option maxRecDepth 100000
set_option autoImplicit false
namespace PM
open PySem PySem.Spec L2 PL
open PyProof.Rows hiding St
theorem least_vp {p x : Int} {n : Nat} (hp : p ∈ primesL) (h0 : 0 ≤ x) (h1 : x < p ^ n) (hx : x ≠ 0) : (lead (digs p x n) : Int) = vp p x ∧ strip (digs p x n) ≠ [] ∧ lead (digs p x n) < n := by
  have hp2 := (primesL_le p hp).1
  have u := U_digs (p := p) hp2 n x
  rw [Int.emod_eq_of_lt h0 h1] at u
  have us := U_strip p (digs p x n)
  rw [u] at us
  have ln : (digs p x n).length = n := digs_len ..
  have ll := lead_le (digs p x n)
  have lt : lead (digs p x n) < n := by
    apply Classical.byContradiction
    intro z
    have : (strip (digs p x n)).length = 0 := by rw [strip_len]; omega
    have := List.length_eq_zero_iff.mp this
    rw [this] at us
    simp [U] at us
    exact hx us
  refine ⟨?_, fun z => ?_, lt⟩
  · obtain ⟨d, r, hd⟩ : ∃ d r, strip (digs p x n) = d :: r := by
      cases q : strip (digs p x n) with
      | nil =>
        have := strip_len (digs p x n)
        rw [q, ln] at this
        simp at this
        omega
      | cons d r => exact ⟨d, r, rfl⟩
    have d0 := strip_head _ d r hd
    have dm : d ∈ digs p x n := by
      have : d ∈ strip (digs p x n) := by rw [hd]; exact List.mem_cons_self
      rw [← strip_drop] at this
      exact List.mem_of_mem_drop this
    have db := digs_Dg hp2 n x d dm
    have m0 : U p (strip (digs p x n)) % p ≠ 0 := by
      rw [hd, U_cons, Int.add_comm, Int.add_mul_emod_self_right, Int.emod_eq_of_lt db.1 db.2]
      exact d0
    exact (vp_of hp2 us m0).2.symm
  · have := strip_len (digs p x n)
    rw [z, ln] at this
    simp at this
    omega
end PM
set_option Elab.async false
set_option linter.all false
set_option maxRecDepth 100000
set_option autoImplicit false
namespace PM
open PySem PySem.Spec L2 PL
open PyProof.Rows hiding St
/-- x is the root that the row tells, to the end J -/
structure Rt (p : Int) (cs : List Int) (r : Row) (J : Nat) (x : Int) : Prop where
  lo : 0 ≤ x
  hi : x < p ^ J
  carr : ∀ k : Nat, r.num = k → Carr p cs r k J x
theorem rt_ex {p : Int} {cs : List Int} {n : Nat} {r : Row} {s : List Int} {d : Int} (hp : p ∈ primesL) (h : NzL cs) (h2 : 2 ≤ cs.length) (h9 : cs.length ≤ 9) (hb : ∀ c ∈ cs, c.natAbs < 2 ^ 300) (hn : n ≤ 12) (Ro : RowAt p cs n r s d) (hw : r.word = wOne) {J : Nat} (hJ : r.stem.length ≤ J) (hJ4 : J ≤ 400) :
    ∃ x, Rt p cs r J x ∧ F_root_of [.int p, .lst (cs.map PV.int), .tup (r.stem.map PV.int), .int J] = .ok (leftV p (lead (digs p x J)) (strip (digs p x J))) := by
  obtain ⟨k, c, f, ek, _, _, _, H⟩ := f_root_of hp h h2 h9 hb hn Ro hw
  obtain ⟨j, rfl⟩ : ∃ j, J = r.stem.length + j := ⟨J - r.stem.length, by omega⟩
  obtain ⟨Hj, _, e⟩ := H j hJ4
  refine ⟨f j, ⟨Hj.lo, Hj.hi, fun k' ek' => ?_⟩, ?_⟩
  · have : k' = k := by omega
    subst this
    obtain ⟨z, hz⟩ := Hj.stem
    obtain ⟨a, ha⟩ := Hj.worth
    exact ⟨⟨z, hz⟩, ⟨a, ha⟩⟩
  · rw [e, f_of_whole p 0 (f j) _ hp (by omega), Int.zero_add]
theorem vp_near {p x X : Int} {J : Nat} (hp : 2 ≤ p) (h0 : 0 ≤ x) (h1 : x < p ^ J) (hx : x ≠ 0) (hd : p ^ J ∣ X - x) : X ≠ 0 ∧ vp p X = vp p x ∧ 0 ≤ vp p x ∧ vp p x < J := by
  obtain ⟨m, v, e, hm, ev⟩ := vp_spec hp hx
  have vJ : v < J := by
    apply Classical.byContradiction
    intro z
    obtain ⟨c, hc⟩ : ∃ c, v = J + c := ⟨v - J, by omega⟩
    have : p ^ J ∣ x := ⟨m * p ^ c, by rw [e, hc, Int.pow_add]; grind⟩
    have := Int.le_of_dvd (by omega) this
    omega
  obtain ⟨c, hc⟩ : ∃ c, J = v + (c + 1) := ⟨J - v - 1, by omega⟩
  obtain ⟨q, hq⟩ := hd
  have eX : X = (m + p * (p ^ c * q)) * p ^ v := by
    rw [hc, Int.pow_add, Int.pow_succ] at hq
    have : X = x + p ^ v * (p ^ c * p) * q := by omega
    rw [this, e]
    generalize p ^ v = V
    generalize p ^ c = C
    grind
  have hm' : (m + p * (p ^ c * q)) % p ≠ 0 := by rw [Int.add_mul_emod_self_left]; exact hm
  obtain ⟨a, b⟩ := vp_of hp eX hm'
  exact ⟨a, by rw [b, ev], by omega, by omega⟩
theorem rt_deep {p : Int} {cs : List Int} {n : Nat} {r : Row} {s : List Int} {d : Int} (hp : p ∈ primesL) (h : NzL cs) (Ro : RowAt p cs n r s d) (hw : r.word = wOne) {J : Nat} {x : Int} (hJ : r.stem.length ≤ J) (hx : Rt p cs r J x) (x0 : x ≠ 0) {D : Nat} (hD : J ≤ D) :
    ∃ X, X ≠ 0 ∧ vp p X = vp p x ∧ p ^ D ∣ ev cs X ∧ ∃ z, X = sm p r.stem + p ^ r.stem.length * z := by
  have hp2 := (primesL_le p hp).1
  obtain ⟨k, ek, dp, un⟩ := row_deep hp h Ro hw
  obtain ⟨X, ⟨sX, wX⟩⟩ := dp D (by omega)
  have c1 := hx.carr k ek
  have low : Carr p cs r k J X := ⟨sX, by
    obtain ⟨q, hq⟩ := wX
    exact ⟨p ^ (D - J) * q, by rw [hq, ← Int.mul_assoc, ← Int.pow_add, show k + J + (D - J) = k + D by omega]⟩⟩
  have nr := vp_near hp2 hx.lo hx.hi x0 (un J X x low c1)
  refine ⟨X, nr.1, nr.2.1, ?_, sX⟩
  obtain ⟨q, hq⟩ := wX
  exact ⟨p ^ k * q, by rw [hq, Int.pow_add]; grind⟩
theorem rt_count {p : Int} {cs : List Int} {n : Nat} (hp : p ∈ primesL) (h : NzL cs) (h9 : cs.length ≤ 9) (hb : ∀ c ∈ cs, c.natAbs < 2 ^ 300) (hn : n ≤ 12) {J : Nat} (hJ : 12 ≤ J) (hJ4 : J ≤ 400) {e : Int} {ls : List (Row × Int)} (hl : ∀ q ∈ ls, q.1 ∈ tree p cs n ∧ q.1.word = wOne ∧ Rt p cs q.1 J q.2 ∧ q.2 ≠ 0 ∧ vp p q.2 = e) (hpw : ls.Pairwise fun a b => Apt a.1.stem b.1.stem) (hne : ls ≠ []) :
    ∃ m lo hi, Ed p 1 e (cf cs) m lo hi ∧ (ls.length : Int) ≤ hi - lo := by
  have hp2 := primesL_le p hp
  obtain ⟨L, hL, L0⟩ := id h
  have Lb : L.natAbs < 2 ^ 300 := hb L (by
    have := List.mem_of_getLast? hL
    exact this)
  have vL := vp_le hp2.1 L0 Lb
  have eb : 0 ≤ e ∧ e ≤ 1000 := by
    obtain ⟨q, r, rfl⟩ : ∃ q r, ls = q :: r := by
      cases ls with
      | nil => exact absurd rfl hne
      | cons q r => exact ⟨q, r, rfl⟩
    obtain ⟨_, _, a, b, c⟩ := hl q List.mem_cons_self
    have := vp_near hp2.1 a.lo a.hi b (X := q.2) ⟨0, by simp⟩
    omega
  have ex : ∀ q ∈ ls, ∃ X, X ≠ 0 ∧ vp p X = e ∧ p ^ (20000 + 100 * ls.length) ∣ ev cs X ∧ ∃ z, X = sm p q.1.stem + p ^ q.1.stem.length * z := fun q hq => by
    obtain ⟨a, b, c, d, f⟩ := hl q hq
    obtain ⟨s, dd, Ro⟩ := tree_row a
    have sl := Ro.slen
    have rl := Ro.len
    obtain ⟨X, x1, x2, x3, x4⟩ := rt_deep hp h Ro b (J := J) (by omega) c d (D := 20000 + 100 * ls.length) (by omega)
    exact ⟨X, x1, x2.trans f, x3, x4⟩
  obtain ⟨f, hf⟩ : ∃ f : Row × Int → Int, ∀ q ∈ ls, f q ≠ 0 ∧ vp p (f q) = e ∧ p ^ (20000 + 100 * ls.length) ∣ ev cs (f q) ∧ ∃ z, f q = sm p q.1.stem + p ^ q.1.stem.length * z := by
    classical
    refine ⟨fun q => if hq : q ∈ ls then (ex q hq).choose else 0, fun q hq => ?_⟩
    dsimp only
    rw [dif_pos hq]
    exact (ex q hq).choose_spec
  have cr := count_roots hp eb.1 eb.2 L0 (by omega) (ls.map f) cs h9 hL (fun r hr => by
    obtain ⟨q, hq, rfl⟩ := List.mem_map.mp hr
    obtain ⟨a, b, c, _⟩ := hf q hq
    rw [List.length_map]
    exact ⟨a, b, c⟩) (List.pairwise_map.mpr (hpw.imp_of_mem fun {a b} ha hb' hab => by
    obtain ⟨_, _, _, z, hz⟩ := hf a ha
    obtain ⟨_, _, _, w, hw⟩ := hf b hb'
    obtain ⟨s1, d1, R1⟩ := tree_row (hl a ha).1
    obtain ⟨s2, d2, R2⟩ := tree_row (hl b hb').1
    have sl := R1.slen
    have rl := R1.len
    rw [hz, hw]
    exact apart hp2.1 hab R1.digs R2.digs (by omega) z w))
  rw [List.length_map] at cr
  exact cr
theorem sm_nn {p : Int} {as : List Int} {N : Int} {l : DL} (T : Told p as N l) {k : Int × Int} (hb : 0 < k.2) (hg : Int.gcd k.1 k.2 = 1) : 0 ≤ smD l k := by
  obtain ⟨m, lo, E, _⟩ := T.at hb hg
  have := E.le
  omega
/-- of a whole exponent at most as many roots as the piece tells -/
theorem rt_told {p : Int} {cs : List Int} {n : Nat} (hp : p ∈ primesL) (h : NzL cs) (h9 : cs.length ≤ 9) (hb : ∀ c ∈ cs, c.natAbs < 2 ^ 300) (hn : n ≤ 12) {J : Nat} (hJ : 12 ≤ J) (hJ4 : J ≤ 400) {N : Int} {l : DL} (T : Told p cs N l) {ls : List (Row × Int)} (hl : ∀ q ∈ ls, q.1 ∈ tree p cs n ∧ q.1.word = wOne ∧ Rt p cs q.1 J q.2) (hpw : ls.Pairwise fun a b => Apt a.1.stem b.1.stem) (e : Int) :
    ((ls.filter fun q => decide (q.2 ≠ 0 ∧ vp p q.2 = e)).length : Int) ≤ smD l (e, 1) := by
  have g1 : Int.gcd e 1 = 1 := Int.gcd_one
  by_cases z : ls.filter (fun q => decide (q.2 ≠ 0 ∧ vp p q.2 = e)) = []
  · rw [z]
    have := sm_nn T (k := (e, 1)) (by show (0 : Int) < 1; omega) g1
    simpa using this
  · obtain ⟨m, lo, hi, E, c⟩ := rt_count hp h h9 hb hn hJ hJ4 (e := e) (ls := ls.filter fun q => decide (q.2 ≠ 0 ∧ vp p q.2 = e)) (fun q hq => by
      obtain ⟨a, b⟩ := List.mem_filter.mp hq
      obtain ⟨x, y, w⟩ := hl q a
      have b := of_decide_eq_true b
      exact ⟨x, y, w, b.1, b.2⟩) (hpw.filter _) z
    obtain ⟨m', lo', E', _⟩ := T.at (k := (e, 1)) (by show (0 : Int) < 1; omega) g1
    have := E.uniq E'
    omega
/-- at most one root is nought, and then the first number is -/
theorem rt_zero {p : Int} {cs : List Int} {n : Nat} (hp : p ∈ primesL) (hn : n ≤ 12) {J : Nat} (hJ : 100 ≤ J) (hz : cf cs 0 ≠ 0 → ¬ p ^ 100 ∣ cf cs 0) {ls : List (Row × Int)} (hl : ∀ q ∈ ls, q.1 ∈ tree p cs n ∧ q.1.word = wOne ∧ Rt p cs q.1 J q.2) (hpw : ls.Pairwise fun a b => Apt a.1.stem b.1.stem) (hk : ∀ q ∈ ls, ∃ k : Nat, q.1.num = k) :
    (ls.filter fun q => decide (q.2 = 0)).length ≤ 1 ∧ (cf cs 0 ≠ 0 → (ls.filter fun q => decide (q.2 = 0)).length = 0) := by
  have hp2 := primesL_le p hp
  have at_ : ∀ q ∈ ls, q.2 = 0 → ∃ z, 0 = sm p q.1.stem + p ^ q.1.stem.length * z := fun q hq e => by
    obtain ⟨_, _, R⟩ := hl q hq
    obtain ⟨k, ek⟩ := hk q hq
    obtain ⟨⟨z, hz⟩, _⟩ := R.carr k ek
    rw [e] at hz
    exact ⟨z, hz⟩
  refine ⟨?_, fun c0 => ?_⟩
  · obtain ⟨F, hF⟩ : ∃ F, F = ls.filter fun q => decide (q.2 = 0) := ⟨_, rfl⟩
    have pF : F.Pairwise fun a b => Apt a.1.stem b.1.stem := by rw [hF]; exact hpw.filter _
    have mF : ∀ q ∈ F, q ∈ ls ∧ q.2 = 0 := fun q hq => by
      rw [hF] at hq
      obtain ⟨a, b⟩ := List.mem_filter.mp hq
      exact ⟨a, of_decide_eq_true b⟩
    rw [← hF]
    cases F with
    | nil => exact Nat.zero_le _
    | cons a F => cases F with
      | nil => exact Nat.le_refl _
      | cons b F =>
        exfalso
        obtain ⟨a1, a2⟩ := mF a List.mem_cons_self
        obtain ⟨b1, b2⟩ := mF b (List.mem_cons_of_mem _ List.mem_cons_self)
        have ab := (List.pairwise_cons.mp pF).1 b List.mem_cons_self
        obtain ⟨z, hz⟩ := at_ a a1 a2
        obtain ⟨w, hw⟩ := at_ b b1 b2
        obtain ⟨s1, d1, R1⟩ := tree_row (hl a a1).1
        obtain ⟨s2, d2, R2⟩ := tree_row (hl b b1).1
        have sl := R1.slen
        have rl := R1.len
        refine apart hp2.1 ab R1.digs R2.digs (by omega) z w ?_
        rw [← hz, ← hw]
        exact ⟨0, by simp⟩
  · refine List.length_eq_zero_iff.mpr (List.filter_eq_nil_iff.mpr fun q hq e => ?_)
    have e := of_decide_eq_true e
    obtain ⟨_, _, R⟩ := hl q hq
    obtain ⟨k, ek⟩ := hk q hq
    obtain ⟨_, a, ha⟩ := R.carr k ek
    rw [e] at ha
    have e0 : ev cs 0 = cf cs 0 := by
      cases cs with
      | nil => rfl
      | cons c r => rw [ev, Int.zero_mul, Int.add_zero]; rfl
    rw [e0] at ha
    refine hz c0 ⟨p ^ (k + J - 100) * a, ?_⟩
    rw [ha, ← Int.mul_assoc, ← Int.pow_add, show 100 + (k + J - 100) = k + J by omega]
theorem no_big {p c : Int} (hp : 2 ≤ p) (h : c.natAbs < p.natAbs ^ 100) : c ≠ 0 → ¬ p ^ 100 ∣ c := fun c0 z => by
  have := Int.natAbs_dvd_natAbs.mpr z
  have := Nat.le_of_dvd (by omega) this
  rw [Int.natAbs_pow] at this
  omega
end PM
set_option Elab.async false
set_option linter.all false
set_option maxRecDepth 100000
set_option autoImplicit false
namespace K75
open PySem PySem.Spec L2 PL PM
open PyProof.Rows hiding St
noncomputable def D__law_cell_at : Rho → Out := (bSeq (sIf (tB1 (e2 ltP (eVo 1) (eD lenP (aCons (eVo 0) aNil)))) (bSeq (sRet (e2 ixP (eVo 0) (eVo 1))) bNil) bNil) (bSeq (sRet (eC (.int 0))) bNil))
noncomputable def F__law_cell_at : List PV → R PV := runF 2 D__law_cell_at
noncomputable def D__law_prime : Rho → Out := (bSeq (sSet 1 (eD lstP (aCons (eC (.int 2)) (aCons (eC (.int 3)) (aCons (eC (.int 5)) (aCons (eC (.int 7)) (aCons (eC (.int 11)) (aCons (eC (.int 13)) (aCons (eC (.int 17)) (aCons (eC (.int 19)) (aCons (eC (.int 23)) (aCons (eC (.int 29)) (aCons (eC (.int 31)) (aCons (eC (.int 37)) (aCons (eC (.int 41)) (aCons (eC (.int 43)) (aCons (eC (.int 47)) (aCons (eC (.int 53)) (aCons (eC (.int 59)) (aCons (eC (.int 61)) (aCons (eC (.int 67)) (aCons (eC (.int 71)) (aCons (eC (.int 73)) (aCons (eC (.int 79)) (aCons (eC (.int 83)) (aCons (eC (.int 89)) (aCons (eC (.int 97)) aNil))))))))))))))))))))))))))) (bSeq (sRet (e2 ixP (eVo 1) (e2 modP (eVo 0) (eC (.int 25))))) bNil))
noncomputable def F__law_prime : List PV → R PV := runF 2 D__law_prime
noncomputable def D__law_poly : Rho → Out := (bSeq (sSetO 2 (eD lstP aNil)) (bSeq (sFor (iR rng1 (aCons (eD lenP (aCons (eVo 0) aNil)) aNil)) (gN 3) (bSeq (sSet 4 (e2 subP (e2 modP (e2 fdivP (e2 ixP (eVo 0) (eVo 3)) (eC (.int 7))) (eC (.int 41))) (eC (.int 20)))) (bSeq (sIf (tB1 (e2 eqP (e2 modP (e2 ixP (eVo 0) (eVo 3)) (eC (.int 7))) (eC (.int 1)))) (bSeq (sSet 4 (e2 subP (e2 modP (e2 mulP (e2 fdivP (e2 ixP (eVo 0) (eVo 3)) (eC (.int 7))) (e2 addP (e2 powP (eC (.int 10)) (eC (.int 17))) (eC (.int 3)))) (e2 addP (e2 mulP (eC (.int 2)) (e2 powP (eC (.int 10)) (eC (.int 20)))) (eC (.int 1)))) (e2 powP (eC (.int 10)) (eC (.int 20))))) bNil) bNil) (bSeq (sIf (tB1 (e2 eqP (e2 modP (e2 ixP (eVo 0) (eVo 3)) (eC (.int 7))) (eC (.int 2)))) (bSeq (sSet 4 (eC (.int 0))) bNil) bNil) (bSeq (sFor (iR rng1 (aCons (e2 mulP (e2 modP (e2 fdivP (e2 ixP (eVo 0) (eVo 3)) (eC (.int 287))) (eC (.int 6))) (eD intP1 (aCons (e2 gtP (e2 modP (e2 ixP (eVo 0) (eVo 3)) (eC (.int 7))) (eC (.int 2))) aNil))) aNil)) (gN 5) (bSeq (sSet 4 (e2 mulP (eVo 4) (eVo 1))) bNil)) (bSeq (sMut 2 appP (eV 4)) bNil)))))) (bSeq (sIf (tB1 (e2 eqP (e2 ixP (eVo 2) (e1 negP (eC (.int 1)))) (eC (.int 0)))) (bSeq (sSetI 2 (eC (.int 1)) (e1 negP (eC (.int 1)))) bNil) bNil) (bSeq (sRetO 2) bNil))))
noncomputable def F__law_poly : List PV → R PV := runF 6 D__law_poly
noncomputable def D__law_whole : Rho → Out := (bSeq (sRet (eAn (e1 (isiP "int") (eVo 0)) (e1 notP (e1 (isiP "bool") (eVo 0))))) bNil)
noncomputable def F__law_whole : List PV → R PV := runF 1 D__law_whole
noncomputable def D__law_is_left : Rho → Out := (bSeq (sIf (tOr' (tNt (tB1 (e1 (isiP "tuple") (eVo 0)))) (tOr' (tB1 (e2 neP (eD lenP (aCons (eVo 0) aNil)) (eC (.int 3)))) (tNt (tB1 (e1 (isiP "tuple") (e2 ixP (eVo 0) (eC (.int 2)))))))) (bSeq (sRet (eC (.bl false))) bNil) bNil) (bSeq (sIf (tOr' (tNt (tB1 (eD allP (aCons (eLc [2] (iS (eSl slP (eVo 0) oNone (oSome (eC (.int 2))))) (gN 2) cYes (eD F__law_whole (aCons (eV 2) aNil))) aNil)))) (tNt (tB1 (eD allP (aCons (eLc [3] (iS (e2 ixP (eVo 0) (eC (.int 2)))) (gN 3) cYes (eD F__law_whole (aCons (eV 3) aNil))) aNil))))) (bSeq (sRet (eC (.bl false))) bNil) bNil) (bSeq (sIf (tNt (tB1 (eD allP (aCons (eLc [3] (iS (e2 ixP (eVo 0) (eC (.int 2)))) (gN 3) cYes (eAn (e2 leP (eC (.int 0)) (eVo 3)) (e2 ltP (eVo 3) (eVo 1)))) aNil)))) (bSeq (sRet (eC (.bl false))) bNil) bNil) (bSeq (sRet (eAn (e2 eqP (e2 ixP (eVo 0) (eC (.int 0))) (eVo 1)) (eOr (e2 eqP (e2 ixP (eVo 0) (eC (.int 2))) (eD tupP aNil)) (e2 gtP (e2 ixP (e2 ixP (eVo 0) (eC (.int 2))) (eC (.int 0))) (eC (.int 0)))))) bNil))))
noncomputable def F__law_is_left : List PV → R PV := runF 4 D__law_is_left
noncomputable def D__law_planted : Rho → Out := (bSeq (sSetO 3 (eD lstP (aCons (e2 addP (eC (.int 1)) (e2 modP (eVo 2) (eC (.int 20)))) aNil))) (bSeq (sFor (iS (eSl slP (eVo 0) oNone (oSome (eC (.int 4))))) (gN 4) (bSeq (sSet 5 (e2 subP (e2 modP (eVo 4) (eC (.int 41))) (eC (.int 20)))) (bSeq (sFor (iR rng1 (aCons (e2 modP (e2 fdivP (eVo 4) (eC (.int 41))) (eC (.int 4))) aNil)) (gN 6) (bSeq (sSet 5 (e2 mulP (eVo 5) (eVo 1))) bNil)) (bSeq (sSetO 7 (e2 repL (eD lstP (aCons (eC (.int 0)) aNil)) (e2 addP (eD lenP (aCons (eVo 3) aNil)) (eC (.int 1))))) (bSeq (sFor (iR rng1 (aCons (eD lenP (aCons (eVo 3) aNil)) aNil)) (gN 8) (bSeq (sSetI 7 (e2 subP (e2 ixP (eVo 7) (eVo 8)) (e2 mulP (eVo 5) (e2 ixP (eVo 3) (eVo 8)))) (eV 8)) (bSeq (sSetI 7 (e2 addP (e2 ixP (eVo 7) (e2 addP (eVo 8) (eC (.int 1)))) (e2 ixP (eVo 3) (eVo 8))) (e2 addP (eVo 8) (eC (.int 1)))) bNil))) (bSeq (sMove 3 7) bNil)))))) (bSeq (sIf (tB1 (e2 eqP (e2 modP (e2 fdivP (eVo 2) (eC (.int 20))) (eC (.int 4))) (eC (.int 1)))) (bSeq (sSetI 3 (e2 addP (e2 ixP (eVo 3) (eC (.int 0))) (eC (.int 1))) (eC (.int 0))) bNil) bNil) (bSeq (sIf (tB1 (e2 eqP (e2 modP (e2 fdivP (eVo 2) (eC (.int 20))) (eC (.int 4))) (eC (.int 2)))) (bSeq (sSetI 3 (e2 addP (e2 ixP (eVo 3) (eC (.int 0))) (eVo 1)) (eC (.int 0))) bNil) bNil) (bSeq (sRetO 3) bNil)))))
noncomputable def F__law_planted : List PV → R PV := runF 9 D__law_planted
noncomputable def D__law_within : Rho → Out := (bSeqD 2 (sFor (iS (eV 1)) (gT (gsCons (gN 3) (gsCons (gN 4) gsNil))) (bSeq (sDPut' 2 (eV 4) (eV 3)) bNil)) (bSeqD 2 (sFor (iS (eV 0)) (gN 5) (bSeq (sSet 6 (eDGet 2 (eD tupP (aCons (e2 ixP (eVo 5) (eC (.int 1))) (aCons (eC (.int 1)) aNil))) (eC (.int 0)))) (bSeq (sIf (tB1 (e2 ltP (eVo 6) (eC (.int 1)))) (bSeq (sRet (eC (.bl false))) bNil) bNil) (bSeq (sDPut' 2 (e2 subP (eVo 6) (eC (.int 1))) (eD tupP (aCons (e2 ixP (eVo 5) (eC (.int 1))) (aCons (eC (.int 1)) aNil)))) bNil)))) (bSeqD 2 (sRet (eC (.bl true))) bNilD)))
noncomputable def F__law_within : List PV → R PV := runDt 7 2 D__law_within
noncomputable def D__law_box : Rho → Out := (bSeq (sSet 1 (e2 modP (e2 mulP (e2 addP (eD absP (aCons (eVo 0) aNil)) (eC (.int 1))) (e2 powP (eC (.int 48271)) (eC (.int 31)))) (e2 addP (e2 mulP (e2 powP (eC (.int 10)) (eC (.int 64))) (e2 powP (eC (.int 10)) (eC (.int 64)))) (eC (.int 7))))) (bSeq (sRet (eD lstP (aCons (eD absP (aCons (eVo 0) aNil)) (aCons (e2 addP (e2 modP (e2 mulP (eVo 1) (eVo 1)) (e2 addP (e2 mulP (e2 powP (eC (.int 10)) (eC (.int 64))) (e2 powP (eC (.int 10)) (eC (.int 63)))) (eC (.int 9)))) (eC (.int 1))) aNil)))) bNil))
noncomputable def F__law_box : List PV → R PV := runF 2 D__law_box
noncomputable def D__law_take : Rho → OutX := (xSeq (xIf (xB (x2 0 eqP (xL 0 (e2 ixP (eVo 0) (eC (.int 0)))) (xL 0 (eC (.int 0))))) (xSeq (xSetI (e2 ixP (eVo 0) (eC (.int 1))) (eC (.int 0))) xNil) xNil) (xSeq (xSet 2 (xL 0 (e2 modP (e2 ixP (eVo 0) (eC (.int 0))) (eVo 1)))) (xSeq (xSetI (e2 fdivP (e2 ixP (eVo 0) (eC (.int 0))) (eVo 1)) (eC (.int 0))) (xSeq (xRet (xL 0 (eV 2))) xNil))))
noncomputable def F__law_take : List Int → Int → Option (Int × List Int) := runB 3 D__law_take
noncomputable def D__law_any_number : Rho → OutX := (xSeq (xSet 2 (xTake 0 F__law_take (xL 0 (eC (.int 3))))) (xSeq (xIf (xB (x2 0 eqP (xL 0 (eV 2)) (xL 0 (eC (.int 0))))) (xSeq (xRet (x2 0 subP (xTake 0 F__law_take (xL 0 (e2 addP (e2 mulP (eC (.int 2)) (e2 powP (eC (.int 10)) (eC (.int 20)))) (eC (.int 1))))) (xL 0 (e2 powP (eC (.int 10)) (eC (.int 20)))))) xNil) xNil) (xSeq (xIf (xB (x2 0 eqP (xL 0 (eV 2)) (xL 0 (eC (.int 1))))) (xSeq (xRet (xL 0 (eC (.int 0)))) xNil) xNil) (xSeq (xSet 3 (x2 0 subP (xTake 0 F__law_take (xL 0 (eC (.int 41)))) (xL 0 (eC (.int 20))))) (xSeq (xFor (xTake 0 F__law_take (xL 0 (eC (.int 80)))) (gN 4) (xSeq (xIf (xLT 0 (tB1 (e2 ltP (e2 mulP (eD absP (aCons (eVo 3) aNil)) (eVo 1)) (e2 powP (eC (.int 10)) (eC (.int 20)))))) (xSeq (xSet 3 (xL 0 (e2 mulP (eVo 3) (eVo 1)))) xNil) xNil) xNil)) (xSeq (xRet (xL 0 (eV 3))) xNil))))))
noncomputable def F__law_any_number : List Int → Int → Option (Int × List Int) := runB 5 D__law_any_number
noncomputable def D__law_any_poly : Rho → Out := (bSeq (sSetO 3 (eD F__law_box (aCons (eV 0) aNil))) (bSeq (sSetXO 3 4 (xLcR 3 [5] (xRng (x2 3 addP (xL 3 (eC (.int 2))) (xTake 3 F__law_take (xL 3 (e2 subP (eVo 2) (eC (.int 1))))))) (gN 5) (xTake 3 F__law_any_number (xL 3 (eV 1))))) (bSeq (sIf (tB1 (e2 eqP (e2 ixP (eVo 4) (e1 negP (eC (.int 1)))) (eC (.int 0)))) (bSeq (sSetIX 3 4 (x2 3 addP (xL 3 (eC (.int 1))) (xTake 3 F__law_take (xL 3 (e2 powP (eC (.int 10)) (eC (.int 20)))))) (e1 negP (eC (.int 1)))) (bSeq (sIfX 3 (xB (x2 3 eqP (xTake 3 F__law_take (xL 3 (eC (.int 2)))) (xL 3 (eC (.int 1))))) (bSeq (sSetI 4 (e1 negP (e2 ixP (eVo 4) (e1 negP (eC (.int 1))))) (e1 negP (eC (.int 1)))) bNil) bNil) bNil)) bNil) (bSeq (sRetO 4) bNil))))
noncomputable def F__law_any_poly : List PV → R PV := runF 6 D__law_any_poly
noncomputable def D_law : Rho → Out := (bSeq (sSet 1 (eD F__law_cell_at (aCons (eV 0) (aCons (eC (.int 1)) aNil)))) (bSeq (sSet 2 (e2 ixP (eD lstP (aCons (eC (.int 2)) (aCons (eC (.int 3)) (aCons (eC (.int 5)) (aCons (eC (.int 7)) (aCons (eC (.int 11)) aNil)))))) (e2 modP (eD F__law_cell_at (aCons (eV 0) (aCons (eC (.int 0)) aNil))) (eC (.int 5))))) (bSeq (sIf (tB1 (e2 eqP (e2 modP (eVo 1) (eC (.int 4))) (eC (.int 3)))) (bSeq (sSet 2 (eD F__law_prime (aCons (eD F__law_cell_at (aCons (eV 0) (aCons (eC (.int 0)) aNil))) aNil))) bNil) bNil) (bSeq (sSet 3 (eSl slP (e2 addP (eSl slP (eVo 0) (oSome (eC (.int 3))) (oSome (eC (.int 9)))) (eD lstP (aCons (eC (.int 3)) (aCons (eC (.int 10)) aNil)))) oNone (oSome (eC (.int 7))))) (bSeq (sSet 4 (eD F__law_poly (aCons (eV 3) (aCons (eV 2) aNil)))) (bSeq (sIf (tB1 (e2 eqP (e2 modP (e2 fdivP (eVo 1) (eC (.int 4))) (eC (.int 2))) (eC (.int 1)))) (bSeq (sSet 4 (eD F__law_planted (aCons (eSl slP (e2 addP (eSl slP (eVo 0) (oSome (eC (.int 3))) (oSome (eC (.int 7)))) (eD lstP (aCons (eC (.int 3)) aNil))) oNone (oSome (eC (.int 4)))) (aCons (eV 2) (aCons (eD F__law_cell_at (aCons (eV 0) (aCons (eC (.int 2)) aNil))) aNil))))) bNil) bNil) (bSeq (sIf (tB1 (e2 eqP (e2 modP (e2 fdivP (eVo 1) (eC (.int 256))) (eC (.int 2))) (eC (.int 1)))) (bSeq (sSet 4 (eD F__law_any_poly (aCons (eD F__law_cell_at (aCons (eV 0) (aCons (eC (.int 3)) aNil))) (aCons (eV 2) (aCons (eC (.int 7)) aNil))))) bNil) bNil) (bSeq (sSet 5 (e2 ixP (eD lstP (aCons (eC (.int 100)) (aCons (eC (.int 400)) aNil))) (eD intP1 (aCons (e2 eqP (e2 modP (e2 fdivP (eVo 1) (eC (.int 8))) (eC (.int 8))) (eC (.int 5))) aNil)))) (bSeq (sSetO 6 (eD lstP aNil)) (bSeq (sFor (iS (eD F_tree_of (aCons (eV 2) (aCons (eV 4) (aCons (e2 addP (eC (.int 1)) (e2 modP (e2 fdivP (eVo 1) (eC (.int 64))) (eC (.int 4)))) aNil))))) (gT (gsCons (gN 7) (gsCons (gN 8) (gsCons (gN 9) gsNil)))) (bSeq (sIf (tB1 (e2 eqP (eVo 8) (eC (.str "one")))) (bSeq (sMut 6 appP (eD F_root_of (aCons (eV 2) (aCons (eV 4) (aCons (eV 7) (aCons (eV 5) aNil)))))) bNil) bNil) bNil)) (sFrz 6 (bSeq (sFor (iS (eV 6)) (gN 10) (bSeq (sIf (tOr' (tNt (tB1 (eD F__law_is_left (aCons (eV 10) (aCons (eV 2) aNil))))) (tOr' (tB1 (e2 neP (e2 addP (e2 ixP (eVo 10) (eC (.int 1))) (eD lenP (aCons (e2 ixP (eVo 10) (eC (.int 2))) aNil))) (eVo 5))) (tB1 (e2 ltP (e2 ixP (eVo 10) (eC (.int 1))) (eC (.int 0)))))) (bSeq (sRet (eC (.bl false))) bNil) bNil) bNil)) (bSeq (sTo (gT (gsCons (gN 11) (gsCons (gN 12) gsNil))) (eD F_sizes_of (aCons (eV 2) (aCons (eV 4) aNil)))) (sFrz 6 (bSeq (sSet 13 (eLc [10] (iS (eV 6)) (gN 10) (tB1 (e2 neP (e2 ixP (eVo 10) (eC (.int 2))) (eD tupP aNil))) (eV 10))) (bSeq (sIf (tB1 (e2 gtP (e2 subP (eD lenP (aCons (eVo 6) aNil)) (eD lenP (aCons (eVo 13) aNil))) (eD minP (aCons (eC (.int 1)) (aCons (eVo 11) aNil))))) (bSeq (sRet (eC (.bl false))) bNil) bNil) (bSeq (sRet (eD F__law_within (aCons (eV 13) (aCons (eV 12) aNil)))) bNil)))))))))))))))))
noncomputable def F_law : List PV → R PV := runF 14 D_law
end K75
set_option Elab.async false
set_option linter.all false
set_option maxRecDepth 100000
set_option autoImplicit false
set_option exponentiation.threshold 20000
set_option maxHeartbeats 0
namespace K75
open PySem PySem.Spec L2 PL PM
open PyProof.Rows hiding St
theorem f_cell (ns : List Int) (k : Int) (h : 0 ≤ k) : F__law_cell_at [.frz (ns.map PV.int), .int k] = .ok (.int (nth ns k)) := by
  show (D__law_cell_at [.val (.frz (ns.map PV.int)), .val (.int k)]).res = _
  by_cases hk : k < ns.length
  · simp [D__law_cell_at, hk, ixP_intsF h hk]
  · have : ns[k.toNat]? = none := List.getElem?_eq_none (by omega)
    simp [D__law_cell_at, hk, nth, this]
theorem f_prime (c : Int) : F__law_prime [.int c] = .ok (.int (nth primesL (c % 25))) := by
  show (D__law_prime [.val (.int c), .un]).res = _
  have h25 : primesL.length = 25 := rfl
  have hl : lstP [.int 2, .int 3, .int 5, .int 7, .int 11, .int 13, .int 17, .int 19, .int 23, .int 29, .int 31, .int 37, .int 41, .int 43, .int 47, .int 53, .int 59, .int 61, .int 67, .int 71, .int 73, .int 79, .int 83, .int 89, .int 97] = .ok (.lst (primesL.map PV.int)) := lstP_ok (ps := primesL.map PV.int) (by rw [List.length_map]; omega)
  have e : ixP (.lst (primesL.map PV.int)) (.int (c % 25)) = .ok (.int (nth primesL (c % 25))) := ixP_ints (ns := primesL) (by omega) (by omega)
  have m := modP_pos (a := c) (b := 25) (by omega)
  simp only [D__law_prime, bSeq_eq, sSet_eq, eD_eq, aCons_eq, eC_eq, bind1, aNil_eq, hl, st_ok, then_next, List.set_cons_succ, List.set_cons_zero, sRet_eq, e2_eq, eVos, eVo0, m, e, then_ret, res_ret]
theorem prime_in (c : Int) : nth primesL (c % 25) ∈ primesL := nth_mem (by omega) (by have : primesL.length = 25 := rfl; omega)
theorem f_whole (p : PV) : F__law_whole [p] = .ok (.bl (isW p)) := by
  show (D__law_whole [.val p]).res = _
  simp [D__law_whole, whole_eq]
theorem whole_map (l : List PV) (h : ∀ q ∈ l, isW q = true) (i : Nat) (ρ : Rho) (hi : i < ρ.length) : lcGo (gN i) cYes (eD F__law_whole (aCons (eV i) aNil)) ρ l = .ok ((List.replicate l.length true).map PV.bl) := by
  rw [lcGo_map (fun _ => PV.bl true) l fun q hq => ?_]
  · congr 1
    rw [List.map_replicate]
    exact List.map_const' ..
  · refine ⟨_, rfl, ?_⟩
    have e : eV i (ρ.set i (.val q)) = .ok q := eV_of (List.getElem?_set_self hi)
    simp [e, f_whole, h q hq]
theorem rep_all (n : Nat) : (List.replicate n true).all id = true := by rw [List.all_replicate]; split <;> rfl
theorem f_is_left_l (p e : Int) (ds : List Int) (h : Lf p ds 1000) : F__law_is_left [leftV p e ds, .int p] = .ok (.bl true) := by
  refine (runF_eq (n := 4) (u := D__law_is_left)).trans ?_
  show (D__law_is_left [.val (leftV p e ds), .val (.int p), .un, .un]).res = _
  have x0 : ixP (leftV p e ds) (.int 0) = .ok (.int p) := by simp [leftV]
  have x2 : ixP (leftV p e ds) (.int 2) = .ok (.tup (ds.map PV.int)) := by simp [leftV]
  have t0 : isiP "tuple" (leftV p e ds) = .ok (.bl true) := by rw [isi_tuple]; rfl
  have t2 : isiP "tuple" (.tup (ds.map PV.int)) = .ok (.bl true) := by rw [isi_tuple]; rfl
  have ln : lenP [leftV p e ds] = .ok (.int 3) := by simp [leftV]
  have c1 : slP (leftV p e ds) none (some 2) = .ok (.tup [.int p, .int e]) := by unfold leftV; rw [slP_t, cut_take _ _ (by omega)]; rfl
  have wi : ∀ q ∈ ds.map PV.int, isW q = true := fun q hq => by
    obtain ⟨n, _, rfl⟩ := List.mem_map.mp hq
    rfl
  have hl := h.len
  have E1 := eLc_ok (vs := [2]) (it := iS (eSl slP (eVo 0) oNone (oSome (eC (.int 2))))) (ρ := [.val (leftV p e ds), .val (.int p), .un, .un]) rfl (by simp [c1]) (by simp) (whole_map [.int p, .int e] (by simp) 2 (wipeR [.val (leftV p e ds), .val (.int p), .un, .un] [2]) (by simp [wipeR]))
  have E2 := eLc_ok (vs := [3]) (it := iS (e2 ixP (eVo 0) (eC (.int 2)))) (ρ := [.val (leftV p e ds), .val (.int p), .un, .un]) rfl (by simp [x2]) (by simp; omega) (whole_map (ds.map PV.int) wi 3 (wipeR [.val (leftV p e ds), .val (.int p), .un, .un] [3]) (by simp [wipeR]))
  have dm : lcGo (gN 3) cYes (eAn (e2 leP (eC (.int 0)) (eVo 3)) (e2 ltP (eVo 3) (eVo 1))) (wipeR [.val (leftV p e ds), .val (.int p), .un, .un] [3]) (ds.map PV.int) = .ok ((List.replicate (ds.map PV.int).length true).map PV.bl) := by
    rw [lcGo_map (fun _ => PV.bl true) _ fun q hq => ?_]
    · congr 1
      rw [List.map_replicate]
      exact List.map_const' ..
    · obtain ⟨n, hn, rfl⟩ := List.mem_map.mp hq
      obtain ⟨b1, b2⟩ := h.dg n hn
      refine ⟨_, rfl, ?_⟩
      simp [wipeR, b1, b2]
  have E3 := eLc_ok (vs := [3]) (it := iS (e2 ixP (eVo 0) (eC (.int 2)))) (ρ := [.val (leftV p e ds), .val (.int p), .un, .un]) rfl (by simp [x2]) (by simp; omega) dm
  have last : ((eqP (.tup (ds.map PV.int)) (.tup [])).bind fun q => (asB q).bind fun b => if b = true then .ok (.bl true) else (ixP (.tup (ds.map PV.int)) (.int 0)).bind fun x => gtP x (.int 0)) = .ok (.bl true) := by
    cases ds with
    | nil => simp
    | cons d r =>
      have e1 : eqP (.tup (PV.int d :: r.map PV.int)) (.tup []) = .ok (.bl false) := by rw [eqP_ok (by simp) (by simp)]; simp
      have hd : d ≠ 0 := by simpa using h.hd
      have := h.dg d List.mem_cons_self
      have : 0 < d := by omega
      simp [e1, this]
  have A1 := allP_bl (List.replicate [PV.int p, PV.int e].length true)
  have A2 := allP_bl (List.replicate (ds.map PV.int).length true)
  rw [rep_all] at A1 A2
  obtain ⟨l1, hl1⟩ : ∃ l, l = (List.replicate [PV.int p, PV.int e].length true).map PV.bl := ⟨_, rfl⟩
  obtain ⟨l2, hl2⟩ : ∃ l, l = (List.replicate (ds.map PV.int).length true).map PV.bl := ⟨_, rfl⟩
  rw [← hl1] at A1 E1
  rw [← hl2] at A2 E2 E3
  simp [D__law_is_left, x0, x2, t0, t2, ln, E1, E2, E3, A1, A2, last]
theorem log2_succ {n m : Nat} (h : n.log2 < m) : (n + 1).log2 < m + 1 := by
  by_cases z : n = 0
  · subst z; have : (0 + 1 : Nat).log2 = 0 := by decide
    omega
  · have h1 := (Nat.log2_lt z).mp h
    refine (Nat.log2_lt (by omega)).mpr ?_
    rw [Nat.pow_succ]
    omega
theorem f_box (c : Int) (hc : c.natAbs.log2 < 1048577) : ∃ x y : Int, F__law_box [.int c] = .ok (.lst [.int x, .int y]) := by
  obtain ⟨t, ht⟩ : ∃ t : Int, t = (c.natAbs : Int) := ⟨_, rfl⟩
  have tl : (t + 1).natAbs.log2 < 1048578 := by
    have : (t + 1).natAbs = c.natAbs + 1 := by omega
    rw [this]
    exact log2_succ hc
  have m1 : mulP (.int (t + 1)) (.int 15641383829294227242221303213659838570867919271677843176768358523922841972388532636825300972287465239570716261423460695063637133034127645472629871) = .ok (.int ((t + 1) * 15641383829294227242221303213659838570867919271677843176768358523922841972388532636825300972287465239570716261423460695063637133034127645472629871)) := mulP_ii (okMul_log (m := 1048578) (n := 1000) tl (log2_lt (by omega) (by omega)) (by omega))
  obtain ⟨u, hu⟩ : ∃ u : Int, u = (t + 1) * 15641383829294227242221303213659838570867919271677843176768358523922841972388532636825300972287465239570716261423460695063637133034127645472629871 % 100000000000000000000000000000000000000000000000000000000000000000000000000000000000000000000000000000000000000000000000000000007 := ⟨_, rfl⟩
  have u0 : 0 ≤ u ∧ u < 100000000000000000000000000000000000000000000000000000000000000000000000000000000000000000000000000000000000000000000000000000007 := by rw [hu]; exact ⟨Int.emod_nonneg _ (by omega), Int.emod_lt_of_pos _ (by omega)⟩
  have md : modP (.int ((t + 1) * 15641383829294227242221303213659838570867919271677843176768358523922841972388532636825300972287465239570716261423460695063637133034127645472629871)) (.int 100000000000000000000000000000000000000000000000000000000000000000000000000000000000000000000000000000000000000000000000000000007) = .ok (.int u) := by rw [hu]; exact modP_pos (by omega)
  have m2 := mulP_small (a := u) (b := u) (by omega) (by omega) (by omega) (by omega)
  have ab : absP [.int c] = .ok (.int t) := by rw [ht]; simp [absP]; try omega
  have m3 : mulP (.int 10000000000000000000000000000000000000000000000000000000000000000) (.int 10000000000000000000000000000000000000000000000000000000000000000) = .ok (.int 100000000000000000000000000000000000000000000000000000000000000000000000000000000000000000000000000000000000000000000000000000000) := mulP_small (by omega) (by omega) (by omega) (by omega)
  have m4 : mulP (.int 10000000000000000000000000000000000000000000000000000000000000000) (.int 1000000000000000000000000000000000000000000000000000000000000000) = .ok (.int 10000000000000000000000000000000000000000000000000000000000000000000000000000000000000000000000000000000000000000000000000000000) := mulP_small (by omega) (by omega) (by omega) (by omega)
  refine ⟨t, u * u % 10000000000000000000000000000000000000000000000000000000000000000000000000000000000000000000000000000000000000000000000000000009 + 1, (runF_eq (n := 2) (u := D__law_box)).trans ?_⟩
  show (D__law_box [.val (.int c), .un]).res = _
  simp (disch := omega) [D__law_box, ab, m1, md, m2, m3, m4, powP_sm, modP_pos]
theorem f_take (x y n : Int) (hn : 0 < n) (hb : n.natAbs.log2 < 9000) : F__law_take [x, y] n = some ((if x = 0 then y else x).fmod n, [(if x = 0 then y else x).fdiv n, y]) := by
  have n0 : n ≠ 0 := by omega
  unfold F__law_take runB
  have i0 : ∀ a b : Int, ixP (.lst [.int a, .int b]) (.int 0) = .ok (.int a) := fun a b => rfl
  have i1 : ∀ a b : Int, ixP (.lst [.int a, .int b]) (.int 1) = .ok (.int b) := fun a b => rfl
  have t0 : ∀ (a b c : Int), setP [.int a, .int b] (.int c) (.int 0) = .ok [.int c, .int b] := fun a b c => rfl
  have m0 : ∀ a : Int, modP (.int a) (.int n) = .ok (.int (a.fmod n)) := fun a => by unfold modP intP; simp [n0]
  have d0 : ∀ a : Int, fdivP (.int a) (.int n) = .ok (.int (a.fdiv n)) := fun a => by unfold fdivP intP okDiv; simp [n0, hb]
  by_cases h : x = 0
  · subst h
    simp [D__law_take, xSeq, xIf, xB, x2, xL, xSetI, xSet, xRet, xNil, hasB, boxD, asInts, i0, i1, t0, m0, d0, asB]
  · have hx : (x == 0) = false := by simpa using h
    simp [D__law_take, xSeq, xIf, xB, x2, xL, xSetI, xSet, xRet, xNil, hasB, boxD, asInts, i0, i1, t0, m0, d0, asB, h, hx]
theorem f_take3 (x y n : Int) (hn : 0 < n) (hb : n.natAbs.log2 < 9000) : ∃ d z, 0 ≤ d ∧ d < n ∧ F__law_take [x, y] n = some (d, [z, y]) := by
  refine ⟨_, _, ?_, ?_, f_take x y n hn hb⟩
  · rw [Int.fmod_eq_emod_of_nonneg _ (by omega)]; exact Int.emod_nonneg _ (by omega)
  · rw [Int.fmod_eq_emod_of_nonneg _ (by omega)]; exact Int.emod_lt_of_pos _ hn
theorem f_polyT (p : Int) (cs : List Int) (hp : 2 ≤ p ∧ p ≤ 97) (h0 : cs ≠ []) (hl : cs.length ≤ 100) (hb : ∀ c ∈ cs, c.natAbs.log2 < 2000000) :
    ∃ as : List Int, F__law_poly [.lst (cs.map PV.int), .int p] = .ok (.lst (as.map PV.int)) ∧ as.length = cs.length ∧ as.getLast? ≠ some 0 ∧ ∀ a ∈ as, a.natAbs < 2 ^ 90 := by
  have p17 : powP (.int 10) (.int 17) = .ok (.int 100000000000000000) := by rw [powP_sm (by omega) (by omega) (by omega) (by omega)]; rfl
  have p20 : powP (.int 10) (.int 20) = .ok (.int 100000000000000000000) := by rw [powP_sm (by omega) (by omega) (by omega) (by omega)]; rfl
  have m2 : mulP (.int 2) (.int 100000000000000000000) = .ok (.int 200000000000000000000) := mulP_ii (okMul_of (m := 70) (n := 70) (by omega) (by omega) (by omega) (by omega) (by omega))
  have ib : ∀ b : Bool, intP1 [.bl b] = .ok (.int (if b = true then 1 else 0)) := fun b => rfl
  have ln : lenP [.lst (cs.map PV.int)] = .ok (.int cs.length) := by simp
  have hr : rng1 [.int (cs.length : Int)] = .ok (rngL 0 cs.length) := by rw [rng1_sm (by omega) (by omega)]; rfl
  have S : SeqI (.lst (cs.map PV.int)) cs := .inl rfl
  obtain ⟨ρ', e1, as, s4, s5, rfl, al, ab⟩ := forL_rng (tgt := gN 3) (body := (bSeq (sSet 4 (e2 subP (e2 modP (e2 fdivP (e2 ixP (eVo 0) (eVo 3)) (eC (.int 7))) (eC (.int 41))) (eC (.int 20)))) (bSeq (sIf (tB1 (e2 eqP (e2 modP (e2 ixP (eVo 0) (eVo 3)) (eC (.int 7))) (eC (.int 1)))) (bSeq (sSet 4 (e2 subP (e2 modP (e2 mulP (e2 fdivP (e2 ixP (eVo 0) (eVo 3)) (eC (.int 7))) (e2 addP (e2 powP (eC (.int 10)) (eC (.int 17))) (eC (.int 3)))) (e2 addP (e2 mulP (eC (.int 2)) (e2 powP (eC (.int 10)) (eC (.int 20)))) (eC (.int 1)))) (e2 powP (eC (.int 10)) (eC (.int 20))))) bNil) bNil) (bSeq (sIf (tB1 (e2 eqP (e2 modP (e2 ixP (eVo 0) (eVo 3)) (eC (.int 7))) (eC (.int 2)))) (bSeq (sSet 4 (eC (.int 0))) bNil) bNil) (bSeq (sFor (iR rng1 (aCons (e2 mulP (e2 modP (e2 fdivP (e2 ixP (eVo 0) (eVo 3)) (eC (.int 287))) (eC (.int 6))) (eD intP1 (aCons (e2 gtP (e2 modP (e2 ixP (eVo 0) (eVo 3)) (eC (.int 7))) (eC (.int 2))) aNil))) aNil)) (gN 5) (bSeq (sSet 4 (e2 mulP (eVo 4) (eVo 1))) bNil)) (bSeq (sMut 2 appP (eV 4)) bNil))))))
    (fun k ρ => ∃ (as : List Int) (s4 s5 : Slot), ρ = [.val (.lst (cs.map PV.int)), .val (.int p), .own (as.map PV.int), (if k = 0 then .un else .val (.int ((k : Int) - 1))), s4, s5] ∧ as.length = k ∧ ∀ a ∈ as, a.natAbs < 2 ^ 90) 0 cs.length [.val (.lst (cs.map PV.int)), .val (.int p), .own [], .un, .un, .un]
    ⟨[], .un, .un, rfl, rfl, fun _ h => nomatch h⟩ (fun k ρ hk ⟨as, s4, s5, e, al, ab⟩ => by
      subst e
      obtain ⟨c, hc⟩ : ∃ c, c = cs.getD k 0 := ⟨_, rfl⟩
      have i := S.ix k hk
      rw [← hc, show ((k : Nat) : Int) = 0 + k by omega] at i
      have cb : c.natAbs.log2 < 2000000 := by
        rw [hc, List.getD_eq_getElem?_getD, List.getElem?_eq_getElem hk]
        exact hb _ (List.getElem_mem hk)
      have d7 := fdivP_sm (a := c) (b := 7) (by omega) (by omega)
      have d287 := fdivP_sm (a := c) (b := 287) (by omega) (by omega)
      have r7 := modP_pos (a := c) (b := 7) (by omega)
      have r41 := modP_pos (a := c / 7) (b := 41) (by omega)
      have r6 := modP_pos (a := c / 287) (b := 6) (by omega)
      have mm : mulP (.int (c / 7)) (.int 100000000000000003) = .ok (.int (c / 7 * 100000000000000003)) := mulP_ii (okMul_log (log2_le_lt (show (c / 7).natAbs ≤ c.natAbs by omega) cb) (n := 100) (by decide) (by omega))
      have rm := modP_pos (a := c / 7 * 100000000000000003) (b := 200000000000000000001) (by omega)
      obtain ⟨g, hg⟩ : ∃ g, g = decide (c % 7 > 2) := ⟨_, rfl⟩
      obtain ⟨t, ht, ht5, ht0⟩ : ∃ t : Nat, mulP (.int (c / 287 % 6)) (.int (if g = true then 1 else 0)) = .ok (.int t) ∧ t ≤ 5 ∧ (c % 7 ≤ 2 → t = 0) := by
        cases g with
        | true => exact ⟨(c / 287 % 6).toNat, by rw [if_pos rfl, mulP_sm (by omega) (by omega) (by omega) (by omega), show c / 287 % 6 * 1 = (((c / 287 % 6).toNat : Nat) : Int) by omega], by omega, fun z => by have := of_decide_eq_true hg.symm; omega⟩
        | false => exact ⟨0, by rw [if_neg Bool.false_ne_true, mulP_sm (by omega) (by omega) (by omega) (by omega), show c / 287 % 6 * 0 = ((0 : Nat) : Int) by omega], by omega, fun _ => rfl⟩
      have rt : rng1 [.int (t : Int)] = .ok (rngL 0 t) := by rw [rng1_sm (by omega) (by omega)]; rfl
      obtain ⟨x, hx⟩ : ∃ x : Int, x = if c % 7 = 1 then c / 7 * 100000000000000003 % 200000000000000000001 - 100000000000000000000 else if c % 7 = 2 then 0 else c / 7 % 41 - 20 := ⟨_, rfl⟩
      have xb : x.natAbs ≤ 100000000000000000000 := by
        rw [hx]
        split
        · omega
        · split <;> omega
      have hl := mul_loop (i := 4) (j := 1) (a := 5) (ρ := [.val (.lst (cs.map PV.int)), .val (.int p), .own (as.map PV.int), .val (.int (0 + (k : Int))), .val (.int x), s5]) (x := x) (y := p) t rfl rfl (by omega) (by omega) (by omega) (by simp) (by omega) (by omega) (by omega)
      have ap : appP (as.map PV.int) (.int (x * p ^ t)) = .ok ((as ++ [x * p ^ t]).map PV.int) := by rw [appP_ok (by rw [List.length_map]; omega), List.map_append]; rfl
      have xp : (x * p ^ t).natAbs < 2 ^ 90 := by
        by_cases c3 : c % 7 ≤ 2
        · rw [ht0 c3, Int.pow_zero, Int.mul_one]; omega
        · have xs : x.natAbs ≤ 20 := by rw [hx, if_neg (by omega), if_neg (by omega)]; omega
          exact mul_lt (m := 6) (by omega) (sz_le (pow_sz hp.1 hp.2 t) (show 7 * t + 1 ≤ 36 by omega)) (by omega)
      refine ⟨_, .inl ?_, as ++ [x * p ^ t], .val (.int (x * p ^ t)), lastS [.val (.lst (cs.map PV.int)), .val (.int p), .own (as.map PV.int), .val (.int (0 + (k : Int))), .val (.int x), s5] 5 t, rfl, by simp [al], fun a ha => ?_⟩
      · rw [if_neg (show ¬ (k + 1 = 0) by omega), show ((k + 1 : Nat) : Int) - 1 = 0 + k by omega]
        have st : ∀ s4, (bSeq (sFor (iR rng1 (aCons (e2 mulP (e2 modP (e2 fdivP (e2 ixP (eVo 0) (eVo 3)) (eC (.int 287))) (eC (.int 6))) (eD intP1 (aCons (e2 gtP (e2 modP (e2 ixP (eVo 0) (eVo 3)) (eC (.int 7))) (eC (.int 2))) aNil))) aNil)) (gN 5) (bSeq (sSet 4 (e2 mulP (eVo 4) (eVo 1))) bNil)) (bSeq (sMut 2 appP (eV 4)) bNil)) [.val (.lst (cs.map PV.int)), .val (.int p), .own (as.map PV.int), .val (.int (0 + (k : Int))), .val (.int x), s4] = .next [.val (.lst (cs.map PV.int)), .val (.int p), .own ((as ++ [x * p ^ t]).map PV.int), .val (.int (0 + (k : Int))), .val (.int (x * p ^ t)), lastS [.val (.lst (cs.map PV.int)), .val (.int p), .own (as.map PV.int), .val (.int (0 + (k : Int))), .val (.int x), s4] 5 t] := fun s4 => by
          have hl := mul_loop (i := 4) (j := 1) (a := 5) (ρ := [.val (.lst (cs.map PV.int)), .val (.int p), .own (as.map PV.int), .val (.int (0 + (k : Int))), .val (.int x), s4]) (x := x) (y := p) t rfl rfl (by omega) (by omega) (by omega) (by simp) (by omega) (by omega) (by omega)
          simp only [bSeq_eq, sFor_eq, iR_eq, e2_eq, eD_eq, aCons_eq, aNil_eq, eC_eq, eVo0, eVos, bind1, i, d287, r6, r7, gtP_ii, ← hg, ib, ht, rt, stL_ok, hl, List.set_cons_succ, List.set_cons_zero, then_next, sMut_eq, getOwn0, getOwnS, onOwn_some, eV0, eVs, st_ok, ap, own_ok, bNil_eq]
        by_cases c1 : c % 7 = 1
        · have c1' : (c % 7 == 1) = true := by simpa using c1
          have c2' : (c % 7 == 2) = false := by rw [beq_eq_false_iff_ne]; omega
          rw [if_pos c1] at hx
          simp only [turnL, gN_eq, List.set_cons_succ, List.set_cons_zero, bSeq_eq, sSet_eq, sIf_eq, tB1_eq, e2_eq, eC_eq, eVo0, eVos, bind1, i, d7, r41, r7, subP_ii, st_ok, then_next, List.set_cons_succ, List.set_cons_zero, eqP_ii, c1', c2', asB_eq, stB_ok, if_true, if_neg Bool.false_ne_true, p17, p20, addP_ii, show (100000000000000000 : Int) + 3 = 100000000000000003 from rfl, mm, m2, show (200000000000000000000 : Int) + 1 = 200000000000000000001 from rfl, rm, bNil_eq]
          rw [← hx]
          have := st s5
          simp only [bSeq_eq] at this
          exact this
        · have c1' : (c % 7 == 1) = false := by simpa using c1
          rw [if_neg c1] at hx
          by_cases c2 : c % 7 = 2
          · have c2' : (c % 7 == 2) = true := by simpa using c2
            rw [if_pos c2] at hx
            simp only [turnL, gN_eq, List.set_cons_succ, List.set_cons_zero, bSeq_eq, sSet_eq, sIf_eq, tB1_eq, e2_eq, eC_eq, eVo0, eVos, bind1, i, d7, r41, r7, subP_ii, st_ok, then_next, List.set_cons_succ, List.set_cons_zero, eqP_ii, c1', c2', asB_eq, stB_ok, if_true, if_neg Bool.false_ne_true, bNil_eq]
            have := st s5
            simp only [bSeq_eq] at this
            rw [hx] at this ⊢
            exact this
          · have c2' : (c % 7 == 2) = false := by simpa using c2
            rw [if_neg c2] at hx
            simp only [turnL, gN_eq, List.set_cons_succ, List.set_cons_zero, bSeq_eq, sSet_eq, sIf_eq, tB1_eq, e2_eq, eC_eq, eVo0, eVos, bind1, i, d7, r41, r7, subP_ii, st_ok, then_next, List.set_cons_succ, List.set_cons_zero, eqP_ii, c1', c2', asB_eq, stB_ok, if_true, if_neg Bool.false_ne_true, bNil_eq]
            rw [← hx]
            have := st s5
            simp only [bSeq_eq] at this
            exact this
      · rcases List.mem_append.mp ha with ha | ha
        · exact ab a ha
        · rw [List.mem_singleton.mp ha]; exact xp)
  have hn : as ≠ [] := fun z => by
    rw [z] at al
    exact h0 (List.length_eq_zero_iff.mp al.symm)
  obtain ⟨l, y, hly⟩ : ∃ l y, as = l ++ [y] := ⟨as.dropLast, as.getLast hn, (List.dropLast_concat_getLast hn).symm⟩
  have go : ∀ {o : R PV}, (D__law_poly [.val (.lst (cs.map PV.int)), .val (.int p), .un, .un, .un, .un]).res = o → F__law_poly [.lst (cs.map PV.int), .int p] = o := fun h => (runF_eq (n := 6) (u := D__law_poly)).trans h
  have t0 : lstP [] = .ok (.lst []) := lstP_ok (by simp)
  have lx : ixP (.lst ((l ++ [y]).map PV.int)) (.int (-1)) = .ok (.int y) := by rw [List.map_append]; exact ixP_last _ _
  rw [hly] at al ab e1
  by_cases hy : y = 0
  · have sp : setP ((l ++ [y]).map PV.int) (.int 1) (.int (-1)) = .ok ((l ++ [1]).map PV.int) := by
      have e : ixN ((l ++ [y]).map PV.int).length (-1) = some l.length := by
        unfold ixN
        rw [if_neg (by omega), List.length_map, List.length_append, List.length_singleton, if_pos (by omega)]
        exact congrArg some (by omega)
      unfold setP
      dsimp only
      rw [e]
      simp
    refine ⟨l ++ [1], go ?_, by simpa using al, by simp, fun a ha => ?_⟩
    · unfold D__law_poly
      refine stpN (ρ' := [.val (.lst (cs.map PV.int)), .val (.int p), .own [], .un, .un, .un]) (by simp [t0]) ?_
      refine stpFor (rngL 0 cs.length) _ (by simp only [iR_eq, eD_eq, aCons_eq, aNil_eq, eVo0, bind1, ln, hr]) e1 ?_
      refine stpN (ρ' := [.val (.lst (cs.map PV.int)), .val (.int p), .own ((l ++ [1]).map PV.int), (if cs.length = 0 then .un else .val (.int ((cs.length : Int) - 1))), s4, s5]) (by
        have y' : (y == 0) = true := by simpa using hy
        simp only [sIf_eq, tB1_eq, e2_eq, e1_eq, eC_eq, eVo0', eVos, bind1, negP_eq, lx, eqP_ii, y', asB_eq, stB_ok, if_true, bSeq_eq, sSetI_eq, getOwn0, getOwnS, onOwn_some, st_ok, sp, own_ok, List.set_cons_succ, List.set_cons_zero, then_next, bNil_eq]) ?_
      simp
    · rcases List.mem_append.mp ha with ha | ha
      · exact ab a (List.mem_append_left _ ha)
      · rw [List.mem_singleton.mp ha]; decide
  · refine ⟨l ++ [y], go ?_, al, by simpa using hy, ab⟩
    unfold D__law_poly
    refine stpN (ρ' := [.val (.lst (cs.map PV.int)), .val (.int p), .own [], .un, .un, .un]) (by simp [t0]) ?_
    refine stpFor (rngL 0 cs.length) _ (by simp only [iR_eq, eD_eq, aCons_eq, aNil_eq, eVo0, bind1, ln, hr]) e1 ?_
    refine skp (by
      have y' : (y == 0) = false := by simpa using hy
      simp only [tB1_eq, e2_eq, e1_eq, eC_eq, eVo0', eVos, bind1, negP_eq, lx, eqP_ii, y', asB_eq]) ?_
    simp
theorem turnL_gN {i : Nat} {body : Rho → Out} {p : PV} {ρ : Rho} : turnL (gN i) body p ρ = body (ρ.set i (.val p)) := by
  unfold turnL
  rw [gN_eq]
theorem xsN {g h : Rho → OutX} {ρ ρ' : Rho} {r : OutX} (e : g ρ = .ok (none, ρ')) (hb : hasB ρ' = true) (k : h ρ' = r) : xSeq g h ρ = r := by
  unfold xSeq
  rw [e]
  dsimp only
  rw [if_pos hb, k]
theorem xsR {g h : Rho → OutX} {ρ ρ' : Rho} {p : PV} (e : g ρ = .ok (some p, ρ')) : xSeq g h ρ = .ok (some p, ρ') := by
  unfold xSeq
  rw [e]
theorem xIf_T {t : Rho → R (Bool × List PV)} {g h : Rho → OutX} {ρ : Rho} {c : List PV} {r : OutX} (e : t ρ = .ok (true, c)) (k : g (ρ.set 0 (.own c)) = r) : xIf t g h ρ = r := by
  unfold xIf
  rw [e]
  exact k
theorem xIf_F {t : Rho → R (Bool × List PV)} {g h : Rho → OutX} {ρ : Rho} {c : List PV} {r : OutX} (e : t ρ = .ok (false, c)) (k : h (ρ.set 0 (.own c)) = r) : xIf t g h ρ = r := by
  unfold xIf
  rw [e]
  exact k
theorem xSet_ok {i : Nat} {f : Rho → R (PV × List PV)} {ρ : Rho} {p : PV} {c : List PV} (hi : i ≠ 0) (e : f ρ = .ok (p, c)) : xSet i f ρ = .ok (none, (ρ.set 0 (.own c)).set i (.val p)) := by
  unfold xSet
  rw [e]
  dsimp only
  rw [if_neg hi]
theorem xRet_ok {f : Rho → R (PV × List PV)} {ρ : Rho} {p : PV} {c : List PV} (e : f ρ = .ok (p, c)) : xRet f ρ = .ok (some p, ρ.set 0 (.own c)) := by
  unfold xRet
  rw [e]
theorem num_turn {p : Int} (hp : 2 ≤ p ∧ p ≤ 97) {v : Int} (hv : v.natAbs ≤ 100000000000000000000) (B : List PV) (s2 s4 : Slot) :
    ∃ v' : Int, (xSeq (xIf (xLT 0 (tB1 (e2 ltP (e2 mulP (eD absP (aCons (eVo 3) aNil)) (eVo 1)) (e2 powP (eC (.int 10)) (eC (.int 20)))))) (xSeq (xSet 3 (xL 0 (e2 mulP (eVo 3) (eVo 1)))) xNil) xNil) xNil) [.own B, .val (.int p), s2, .val (.int v), s4] = .ok (none, [.own B, .val (.int p), s2, .val (.int v'), s4]) ∧ v'.natAbs ≤ 100000000000000000000 := by
  have p20 : powP (.int 10) (.int 20) = .ok (.int 100000000000000000000) := by rw [powP_sm (by omega) (by omega) (by omega) (by omega)]; rfl
  have m1 : mulP (.int ((v.natAbs : Nat) : Int)) (.int p) = .ok (.int ((v.natAbs : Int) * p)) := mulP_sm (by omega) (by omega) (by omega) (by omega)
  have m2 : mulP (.int v) (.int p) = .ok (.int (v * p)) := mulP_sm (by omega) (by omega) (by omega) (by omega)
  have ab : absP [.int v] = .ok (.int v.natAbs) := absP_i
  have tt : xLT 0 (tB1 (e2 ltP (e2 mulP (eD absP (aCons (eVo 3) aNil)) (eVo 1)) (e2 powP (eC (.int 10)) (eC (.int 20))))) [.own B, .val (.int p), s2, .val (.int v), s4] = .ok (decide ((v.natAbs : Int) * p < 100000000000000000000), B) := by
    unfold xLT
    show (match tB1 (e2 ltP (e2 mulP (eD absP (aCons (eVo 3) aNil)) (eVo 1)) (e2 powP (eC (.int 10)) (eC (.int 20)))) [.own B, .val (.int p), s2, .val (.int v), s4] with
      | .ok k => R.ok (k, B)
      | _ => .stuck) = _
    rw [show tB1 (e2 ltP (e2 mulP (eD absP (aCons (eVo 3) aNil)) (eVo 1)) (e2 powP (eC (.int 10)) (eC (.int 20)))) [.own B, .val (.int p), s2, .val (.int v), s4] = .ok (decide ((v.natAbs : Int) * p < 100000000000000000000)) by
      simp only [tB1_eq, e2_eq, eD_eq, aCons_eq, aNil_eq, eVos, eVo0, eC_eq, bind1, ab, m1, p20, ltP_ii, asB_eq]]
  by_cases h : (v.natAbs : Int) * p < 100000000000000000000
  · rw [decide_eq_true h] at tt
    refine ⟨v * p, ?_, by
      have e : ((v * p).natAbs : Int) = (v.natAbs : Int) * p := by rw [Int.natAbs_mul, Int.natCast_mul, Int.natAbs_of_nonneg (show 0 ≤ p by omega)]
      omega⟩
    refine xsN (ρ' := [.own B, .val (.int p), s2, .val (.int (v * p)), s4]) ?_ rfl rfl
    refine xIf_T tt ?_
    refine xsN (ρ' := [.own B, .val (.int p), s2, .val (.int (v * p)), s4]) ?_ rfl rfl
    exact xSet_ok (by decide) (xL_ok rfl (by simp only [List.set_cons_zero, e2_eq, eVos, eVo0, bind1, m2]))
  · rw [decide_eq_false h] at tt
    refine ⟨v, ?_, hv⟩
    refine xsN (ρ' := [.own B, .val (.int p), s2, .val (.int v), s4]) ?_ rfl rfl
    exact xIf_F tt rfl
theorem num_loop {p : Int} (hp : 2 ≤ p ∧ p ≤ 97) (B : List PV) (s2 : Slot) : ∀ (items : List PV) (v : Int) (s4 : Slot), v.natAbs ≤ 100000000000000000000 →
    ∃ (v' : Int) (s4' : Slot), xForL (gN 4) (xSeq (xIf (xLT 0 (tB1 (e2 ltP (e2 mulP (eD absP (aCons (eVo 3) aNil)) (eVo 1)) (e2 powP (eC (.int 10)) (eC (.int 20)))))) (xSeq (xSet 3 (xL 0 (e2 mulP (eVo 3) (eVo 1)))) xNil) xNil) xNil) items [.own B, .val (.int p), s2, .val (.int v), s4] = .ok (none, [.own B, .val (.int p), s2, .val (.int v'), s4']) ∧ v'.natAbs ≤ 100000000000000000000
  | [], v, s4, hv => ⟨v, s4, rfl, hv⟩
  | q :: items, v, s4, hv => by
    obtain ⟨v1, t1, h1⟩ := num_turn hp hv B s2 (.val q)
    obtain ⟨v2, s4', t2, h2⟩ := num_loop hp B s2 items v1 (.val q) h1
    refine ⟨v2, s4', ?_, h2⟩
    unfold xForL
    rw [gN_eq]
    simp only [List.set_cons_succ, List.set_cons_zero]
    rw [t1]
    dsimp only
    rw [if_pos (show hasB [Slot.own B, .val (.int p), s2, .val (.int v1), .val q] = true from rfl)]
    exact t2
theorem f_any_number {p : Int} (hp : 2 ≤ p ∧ p ≤ 97) (x y : Int) : ∃ n z : Int, F__law_any_number [x, y] p = some (n, [z, y]) ∧ n.natAbs ≤ 100000000000000000000 := by
  obtain ⟨d, w, d0, d3, t1⟩ := f_take3 x y 3 (by omega) (log2_lt (by omega) (by omega))
  have p20 : powP (.int 10) (.int 20) = .ok (.int 100000000000000000000) := by rw [powP_sm (by omega) (by omega) (by omega) (by omega)]; rfl
  have m20 : mulP (.int 2) (.int 100000000000000000000) = .ok (.int 200000000000000000000) := mulP_sm (by omega) (by omega) (by omega) (by omega)
  have go : ∀ {n z : Int} {ρ' : Rho}, D__law_any_number [.own [.int x, .int y], .val (.int p), .un, .un, .un] = .ok (some (.int n), .own [.int z, .int y] :: ρ') → F__law_any_number [x, y] p = some (n, [z, y]) := fun {n z ρ'} h => by
    show (match D__law_any_number [.own [.int x, .int y], .val (.int p), .un, .un, .un] with
      | .ok (some p, ρ') => boxD p ρ'
      | _ => none) = _
    rw [h]
    rfl
  have st1 : xSet 2 (xTake 0 F__law_take (xL 0 (eC (.int 3)))) [.own [.int x, .int y], .val (.int p), .un, .un, .un] = .ok (none, [.own [.int w, .int y], .val (.int p), .val (.int d), .un, .un]) :=
    xSet_ok (by decide) (xTake_ok (xs := [x, y]) (ys := [w, y]) (xL_ok rfl rfl) t1)
  have tst : ∀ (j : Int) (s3 s4 : Slot), xB (x2 0 eqP (xL 0 (eV 2)) (xL 0 (eC (.int j)))) [.own [.int w, .int y], .val (.int p), .val (.int d), s3, s4] = .ok (d == j, [.int w, .int y]) := fun j s3 s4 => xB_ok (x2_ok (xL_ok rfl rfl) (xL_ok rfl rfl) eqP_ii)
  unfold D__law_any_number at go
  by_cases e0 : d = 0
  · obtain ⟨n, z, n0, n1, t2⟩ := f_take3 w y 200000000000000000001 (by omega) (log2_lt (by omega) (by omega))
    have b0 : (d == 0) = true := by rw [beq_iff_eq]; exact e0
    have t0 := tst 0 .un .un
    rw [b0] at t0
    refine ⟨n - 100000000000000000000, z, go (ρ' := [.val (.int p), .val (.int d), .un, .un]) ?_, by omega⟩
    refine xsN st1 rfl ?_
    refine xsR ?_
    refine xIf_T t0 ?_
    refine xsR ?_
    exact xRet_ok (x2_ok (xTake_ok (xs := [w, y]) (ys := [z, y]) (xL_ok rfl (by simp only [e2_eq, eC_eq, bind1, p20, m20, addP_ii]; rfl)) t2) (xL_ok rfl (by simp only [e2_eq, eC_eq, bind1, p20])) subP_ii)
  have b0 : (d == 0) = false := by rw [beq_eq_false_iff_ne]; exact e0
  have t0 := tst 0 .un .un
  rw [b0] at t0
  by_cases e1 : d = 1
  · have b1 : (d == 1) = true := by rw [beq_iff_eq]; exact e1
    have t1' := tst 1 .un .un
    rw [b1] at t1'
    refine ⟨0, w, go (ρ' := [.val (.int p), .val (.int d), .un, .un]) ?_, by decide⟩
    refine xsN st1 rfl ?_
    refine xsN (xIf_F t0 rfl) rfl ?_
    refine xsR ?_
    refine xIf_T t1' ?_
    refine xsR ?_
    exact xRet_ok (xL_ok rfl rfl)
  have b1 : (d == 1) = false := by rw [beq_eq_false_iff_ne]; exact e1
  have t1' := tst 1 .un .un
  rw [b1] at t1'
  obtain ⟨v, z, v0, v1, t2⟩ := f_take3 w y 41 (by omega) (log2_lt (by omega) (by omega))
  obtain ⟨r, u, r0, r1, t3⟩ := f_take3 z y 80 (by omega) (log2_lt (by omega) (by omega))
  have st2 : xSet 3 (x2 0 subP (xTake 0 F__law_take (xL 0 (eC (.int 41)))) (xL 0 (eC (.int 20)))) [.own [.int w, .int y], .val (.int p), .val (.int d), .un, .un] = .ok (none, [.own [.int z, .int y], .val (.int p), .val (.int d), .val (.int (v - 20)), .un]) :=
    xSet_ok (by decide) (x2_ok (xTake_ok (xs := [w, y]) (ys := [z, y]) (xL_ok rfl rfl) t2) (xL_ok rfl rfl) subP_ii)
  obtain ⟨n, s4, lp, nb⟩ := num_loop hp [.int u, .int y] (.val (.int d)) (rngL 0 r.toNat) (v - 20) .un (by omega)
  refine ⟨n, u, go (ρ' := [.val (.int p), .val (.int d), .val (.int n), s4]) ?_, nb⟩
  refine xsN st1 rfl ?_
  refine xsN (xIf_F t0 rfl) rfl ?_
  refine xsN (xIf_F t1' rfl) rfl ?_
  refine xsN st2 rfl ?_
  refine xsN (ρ' := [.own [.int u, .int y], .val (.int p), .val (.int d), .val (.int n), s4]) ?_ rfl ?_
  · unfold xFor xRng
    rw [xTake_ok (xs := [z, y]) (ys := [u, y]) (xL_ok rfl rfl) t3]
    dsimp only
    rw [if_pos (show inR r = true from inR_iff.mpr (by omega))]
    exact lp
  · refine xsR ?_
    exact xRet_ok (xL_ok rfl rfl)
theorem sSetXO_ok {b i : Nat} {f : Rho → R (PV × List PV)} {ρ : Rho} {ps c : List PV} (ho : ownB b ρ = true) (e : f ρ = .ok (.lst ps, c)) : sSetXO b i f ρ = .next ((ρ.set b (.own c)).set i (.own ps)) := by
  unfold sSetXO
  rw [if_pos ho, e]
theorem sSetIX_ok {b i : Nat} {f : Rho → R (PV × List PV)} {fi : Rho → R PV} {ρ ρ1 : Rho} {p q : PV} {ps qs c : List PV} (ho : ownB b ρ = true) (e : f ρ = .ok (p, c)) (h1 : ρ.set b (.own c) = ρ1) (hi : ρ1[i]? = some (.own ps)) (hf : fi ρ1 = .ok q) (hs : setP ps p q = .ok qs) : sSetIX b i f fi ρ = .next (ρ1.set i (.own qs)) := by
  unfold sSetIX
  rw [if_pos ho, e]
  dsimp only
  rw [h1, hi]
  dsimp only
  rw [hf]
  dsimp only
  rw [hs]
theorem sIfX_T {b : Nat} {t : Rho → R (Bool × List PV)} {u v : Rho → Out} {ρ : Rho} {c : List PV} (ho : ownB b ρ = true) (e : t ρ = .ok (true, c)) : sIfX b t u v ρ = u (ρ.set b (.own c)) := by
  unfold sIfX
  rw [if_pos ho, e]
theorem sIfX_F {b : Nat} {t : Rho → R (Bool × List PV)} {u v : Rho → Out} {ρ : Rho} {c : List PV} (ho : ownB b ρ = true) (e : t ρ = .ok (false, c)) : sIfX b t u v ρ = v (ρ.set b (.own c)) := by
  unfold sIfX
  rw [if_pos ho, e]
theorem any_go {p : Int} (hp : 2 ≤ p ∧ p ≤ 97) (s0 s2 s4 : Slot) (C0 : List PV) (y : Int) : ∀ (items : List PV) (x : Int), ∃ (as : List Int) (z : Int), lcGoX 3 (gN 5) (xTake 3 F__law_any_number (xL 3 (eV 1))) [s0, .val (.int p), s2, .own C0, s4, .un] [.int x, .int y] items = .ok (as.map PV.int, [.int z, .int y]) ∧ as.length = items.length ∧ ∀ a ∈ as, a.natAbs ≤ 100000000000000000000
  | [], x => ⟨[], x, rfl, rfl, fun _ h => nomatch h⟩
  | q :: items, x => by
    obtain ⟨n, w, f1, n1⟩ := f_any_number hp x y
    obtain ⟨as, z, g, l, b⟩ := any_go hp s0 s2 s4 C0 y items w
    refine ⟨n :: as, z, ?_, by rw [List.length_cons, List.length_cons, l], fun a ha => ?_⟩
    · rw [List.map_cons]
      refine lcX_cons (ρ1 := [s0, .val (.int p), s2, .own [.int x, .int y], s4, .val q]) (by rw [gN_eq]; rfl) rfl (xTake_ok (xs := [x, y]) (ys := [w, y]) (xL_ok rfl (by simp only [eVs, eV0])) f1) g
    · rcases List.mem_cons.mp ha with rfl | ha
      · exact n1
      · exact b a ha
theorem f_any_poly {p : Int} (hp : 2 ≤ p ∧ p ≤ 97) {c : Int} (hc : c.natAbs.log2 < 1048577) {most : Int} (hm : 2 ≤ most ∧ most ≤ 20) : ∃ as : List Int, F__law_any_poly [.int c, .int p, .int most] = .ok (.lst (as.map PV.int)) ∧ 2 ≤ as.length ∧ (as.length : Int) ≤ most ∧ as.getLast? ≠ some 0 ∧ ∀ a ∈ as, a.natAbs ≤ 100000000000000000000 := by
  obtain ⟨x, y, hb⟩ := f_box c hc
  obtain ⟨d, w, d0, d1, t1⟩ := f_take3 x y (most - 1) (by omega) (log2_lt (by omega) (by omega))
  have p20 : powP (.int 10) (.int 20) = .ok (.int 100000000000000000000) := by rw [powP_sm (by omega) (by omega) (by omega) (by omega)]; rfl
  obtain ⟨as, z, g, l, b⟩ := any_go hp (.val (.int c)) (.val (.int most)) .un [.int w, .int y] y (rngL 0 (2 + d).toNat) w
  rw [rngL_len] at l
  have s1 : sSetO 3 (eD F__law_box (aCons (eV 0) aNil)) [.val (.int c), .val (.int p), .val (.int most), .un, .un, .un] = .next [.val (.int c), .val (.int p), .val (.int most), .own [.int x, .int y], .un, .un] := by
    simp [hb, R.own, PL.asL]
  have rg : xRng (x2 3 addP (xL 3 (eC (.int 2))) (xTake 3 F__law_take (xL 3 (e2 subP (eVo 2) (eC (.int 1)))))) [.val (.int c), .val (.int p), .val (.int most), .own [.int x, .int y], .un, .un] = .ok (rngL 0 (2 + d).toNat, [.int w, .int y]) := by
    unfold xRng
    rw [x2_ok (xL_ok rfl rfl) (xTake_ok (xs := [x, y]) (ys := [w, y]) (xL_ok rfl (by simp only [List.set_cons_succ, List.set_cons_zero, e2_eq, eVos, eVo0, eC_eq, bind1, subP_ii])) t1) addP_ii]
    dsimp only
    rw [if_pos (show inR (2 + d) = true from inR_iff.mpr (by omega))]
    rfl
  have lc : xLcR 3 [5] (xRng (x2 3 addP (xL 3 (eC (.int 2))) (xTake 3 F__law_take (xL 3 (e2 subP (eVo 2) (eC (.int 1))))))) (gN 5) (xTake 3 F__law_any_number (xL 3 (eV 1))) [.val (.int c), .val (.int p), .val (.int most), .own [.int x, .int y], .un, .un] = .ok (.lst (as.map PV.int), [.int z, .int y]) := by
    unfold xLcR
    rw [rg]
    dsimp only
    exact xLc_ok (c := [.int w, .int y]) rfl rfl rfl (by rw [rngL_len, sizeLine_eq]; omega) g
  have s2 := sSetXO_ok (b := 3) (i := 4) (ρ := [.val (.int c), .val (.int p), .val (.int most), .own [.int x, .int y], .un, .un]) rfl lc
  simp only [List.set_cons_succ, List.set_cons_zero] at s2
  have hn : as ≠ [] := fun h => by rw [h] at l; simp at l; omega
  obtain ⟨r, v, hr⟩ : ∃ r v, as = r ++ [v] := ⟨as.dropLast, as.getLast hn, (List.dropLast_concat_getLast hn).symm⟩
  have lx : ∀ u : Int, ixP (.lst ((r ++ [u]).map PV.int)) (.int (-1)) = .ok (.int u) := fun u => by rw [List.map_append]; exact ixP_last _ _
  have sx : ∀ u u' : Int, setP ((r ++ [u]).map PV.int) (.int u') (.int (-1)) = .ok ((r ++ [u']).map PV.int) := fun u u' => by
    have e : ixN ((r ++ [u]).map PV.int).length (-1) = some r.length := by
      unfold ixN
      rw [if_neg (by omega), List.length_map, List.length_append, List.length_singleton, if_pos (by omega)]
      exact congrArg some (by omega)
    unfold setP
    dsimp only
    rw [e]
    simp
  have go : ∀ {o : R PV}, (D__law_any_poly [.val (.int c), .val (.int p), .val (.int most), .un, .un, .un]).res = o → F__law_any_poly [.int c, .int p, .int most] = o := fun h => (runF_eq (n := 6) (u := D__law_any_poly)).trans h
  have end_ : ∀ (L B : List PV) (s5 : Slot), ((bSeq (sRetO 4) bNil) [.val (.int c), .val (.int p), .val (.int most), .own B, .own L, s5]).res = .ok (.lst L) := fun L B s5 => by
    simp only [bSeq_eq, sRetO_eq, getOwn0, getOwnS, onOwn_some, then_ret, res_ret]
  subst hr
  by_cases hv : v = 0
  · have v0 : (v == 0) = true := by rw [beq_iff_eq]; exact hv
    obtain ⟨n, z2, n0, n1, t2⟩ := f_take3 z y 100000000000000000000 (by omega) (log2_lt (by omega) (by omega))
    obtain ⟨k, z3, k0, k1, t3⟩ := f_take3 z2 y 2 (by omega) (log2_lt (by omega) (by omega))
    have s3 := sSetIX_ok (b := 3) (i := 4) (f := x2 3 addP (xL 3 (eC (.int 1))) (xTake 3 F__law_take (xL 3 (e2 powP (eC (.int 10)) (eC (.int 20)))))) (fi := e1 negP (eC (.int 1))) (ρ := [.val (.int c), .val (.int p), .val (.int most), .own [.int z, .int y], .own ((r ++ [v]).map PV.int), .un]) (ρ1 := [.val (.int c), .val (.int p), .val (.int most), .own [.int z2, .int y], .own ((r ++ [v]).map PV.int), .un]) (p := .int (1 + n)) (c := [.int z2, .int y]) rfl
      (x2_ok (xL_ok rfl rfl) (xTake_ok (xs := [z, y]) (ys := [z2, y]) (xL_ok rfl (by simp only [e2_eq, eC_eq, bind1, p20])) t2) addP_ii) rfl rfl (q := .int (-1)) (by simp only [e1_eq, eC_eq, bind1, negP_eq]) (sx v (1 + n))
    simp only [List.set_cons_succ, List.set_cons_zero] at s3
    have tk : xB (x2 3 eqP (xTake 3 F__law_take (xL 3 (eC (.int 2)))) (xL 3 (eC (.int 1)))) [.val (.int c), .val (.int p), .val (.int most), .own [.int z2, .int y], .own ((r ++ [1 + n]).map PV.int), .un] = .ok (k == 1, [.int z3, .int y]) :=
      xB_ok (x2_ok (xTake_ok (xs := [z2, y]) (ys := [z3, y]) (xL_ok rfl rfl) t3) (xL_ok rfl rfl) eqP_ii)
    have mid : ∃ u : Int, u ≠ 0 ∧ u.natAbs ≤ 100000000000000000000 ∧ (bSeq (sSetIX 3 4 (x2 3 addP (xL 3 (eC (.int 1))) (xTake 3 F__law_take (xL 3 (e2 powP (eC (.int 10)) (eC (.int 20)))))) (e1 negP (eC (.int 1)))) (bSeq (sIfX 3 (xB (x2 3 eqP (xTake 3 F__law_take (xL 3 (eC (.int 2)))) (xL 3 (eC (.int 1))))) (bSeq (sSetI 4 (e1 negP (e2 ixP (eVo 4) (e1 negP (eC (.int 1))))) (e1 negP (eC (.int 1)))) bNil) bNil) bNil)) [.val (.int c), .val (.int p), .val (.int most), .own [.int z, .int y], .own ((r ++ [v]).map PV.int), .un] = .next [.val (.int c), .val (.int p), .val (.int most), .own [.int z3, .int y], .own ((r ++ [u]).map PV.int), .un] := by
      by_cases hk : k = 1
      · have k1 : (k == 1) = true := by rw [beq_iff_eq]; exact hk
        rw [k1] at tk
        refine ⟨-(1 + n), by omega, by omega, ?_⟩
        rw [bSeq_eq, s3, then_next, bSeq_eq, sIfX_T rfl tk]
        simp only [List.set_cons_succ, List.set_cons_zero, bSeq_eq, sSetI_eq, getOwn0, getOwnS, onOwn_some, e1_eq, e2_eq, eVos, eVo0', eC_eq, bind1, negP_eq, lx, st_ok, sx, own_ok, then_next, bNil_eq]
      · have k1 : (k == 1) = false := by rw [beq_eq_false_iff_ne]; exact hk
        rw [k1] at tk
        refine ⟨1 + n, by omega, by omega, ?_⟩
        rw [bSeq_eq, s3, then_next, bSeq_eq, sIfX_F rfl tk]
        simp only [List.set_cons_succ, List.set_cons_zero, then_next, bNil_eq]
    obtain ⟨u, u0, u1, mid⟩ := mid
    refine ⟨r ++ [u], go ?_, by rw [List.length_append] at l ⊢; simp at l ⊢; omega, by rw [List.length_append] at l ⊢; simp at l ⊢; omega, by simpa using u0, fun a ha => ?_⟩
    · unfold D__law_any_poly
      refine stpN s1 ?_
      refine stpN s2 ?_
      refine stpN (ρ' := [.val (.int c), .val (.int p), .val (.int most), .own [.int z3, .int y], .own ((r ++ [u]).map PV.int), .un]) (by
        rw [sIf_eq, show tB1 (e2 eqP (e2 ixP (eVo 4) (e1 negP (eC (.int 1)))) (eC (.int 0))) [.val (.int c), .val (.int p), .val (.int most), .own [.int z, .int y], .own ((r ++ [v]).map PV.int), .un] = .ok true by
          simp only [tB1_eq, e1_eq, e2_eq, eVos, eVo0', eC_eq, bind1, negP_eq, lx, eqP_ii, v0, asB_eq], stB_ok, if_pos rfl]
        exact mid) ?_
      exact end_ _ _ _
    · rcases List.mem_append.mp ha with ha | ha
      · exact b a (List.mem_append_left _ ha)
      · rw [List.mem_singleton.mp ha]; exact u1
  · have v0 : (v == 0) = false := by rw [beq_eq_false_iff_ne]; exact hv
    refine ⟨r ++ [v], go ?_, by omega, by omega, by simpa using hv, b⟩
    unfold D__law_any_poly
    refine stpN s1 ?_
    refine stpN s2 ?_
    refine skp (by simp only [tB1_eq, e1_eq, e2_eq, eVos, eVo0', eC_eq, bind1, negP_eq, lx, eqP_ii, v0, asB_eq]) ?_
    exact end_ _ _ _
def gk (t b : Int) (as : List Int) (k j : Nat) : Int := (if j ≤ k then b * cf as ((j : Int) - 1) else 0) + (if j < k then -t * cf as j else 0)
def PLk (t b : Int) (as : List Int) (k : Nat) : List Int := (List.range (as.length + 1)).map (gk t b as k)
theorem PLk_len (t b : Int) (as : List Int) (k : Nat) : (PLk t b as k).length = as.length + 1 := by unfold PLk; simp
theorem PLk_get {t b : Int} {as : List Int} {k j : Nat} (h : j ≤ as.length) : (PLk t b as k)[j]? = some (gk t b as k j) := by
  unfold PLk
  rw [List.getElem?_map, List.getElem?_range (by omega)]
  rfl
theorem PLk_zero (t b : Int) (as : List Int) : PLk t b as 0 = List.replicate (as.length + 1) 0 := by
  refine List.eq_replicate_iff.mpr ⟨PLk_len _ _ _ _, fun x hx => ?_⟩
  unfold PLk at hx
  obtain ⟨j, _, rfl⟩ := List.mem_map.mp hx
  unfold gk
  by_cases h : j = 0
  · subst h
    rw [cf_out (by omega)]; simp
  · rw [if_neg (by omega), if_neg (by omega)]; rfl
theorem PLk_done (t b : Int) (as : List Int) : PLk t b as as.length = prodLin t b as := by
  unfold PLk prodLin
  refine List.map_congr_left fun j hj => ?_
  have hj := List.mem_range.mp hj
  unfold gk
  rw [if_pos (by omega)]
  by_cases h : j < as.length
  · rw [if_pos h]
  · rw [if_neg h, cf_out (k := (j : Int)) (by omega)]; simp
theorem PLk_step {t b : Int} {as : List Int} {k : Nat} (h : k < as.length) : ((PLk t b as k).set k (gk t b as k k - t * cf as k)).set (k + 1) (gk t b as k (k + 1) + b * cf as k) = PLk t b as (k + 1) := by
  apply List.ext_getElem?
  intro j
  by_cases hj : j ≤ as.length
  · rw [PLk_get hj]
    by_cases h1 : k + 1 = j
    · subst h1
      rw [List.getElem?_set_self (by rw [List.length_set, PLk_len]; omega)]
      refine congrArg some ?_
      unfold gk
      rw [if_neg (by omega), if_neg (by omega), if_pos (Nat.le_refl _), if_neg (by omega), show (((k + 1 : Nat) : Int) - 1) = k by omega]
      simp
    · rw [List.getElem?_set_ne h1]
      by_cases h2 : k = j
      · subst h2
        rw [List.getElem?_set_self (by rw [PLk_len]; omega)]
        refine congrArg some ?_
        unfold gk
        rw [if_pos (Nat.le_refl _), if_neg (by omega), if_pos (by omega), if_pos (by omega)]
        grind
      · rw [List.getElem?_set_ne h2, PLk_get hj]
        refine congrArg some ?_
        unfold gk
        by_cases h3 : j < k
        · rw [if_pos (by omega), if_pos h3, if_pos (by omega), if_pos (by omega)]
        · rw [if_neg (by omega), if_neg h3, if_neg (by omega), if_neg (by omega)]
  · rw [List.getElem?_eq_none (by rw [List.length_set, List.length_set, PLk_len]; omega), List.getElem?_eq_none (by rw [PLk_len]; omega)]
theorem cf_mem {as : List Int} {k : Nat} (h : k < as.length) : cf as k ∈ as ∧ as[k]? = some (cf as k) := by
  have e : as[k]? = some (cf as k) := by rw [cf_nat, List.getD_eq_getElem?_getD, List.getElem?_eq_getElem h]; rfl
  exact ⟨List.mem_of_getElem? e, e⟩
theorem ix_ints {as : List Int} {k : Nat} {x : Int} (h : as[k]? = some x) : ixP (.lst (as.map PV.int)) (.int k) = .ok (.int x) := ixP_lst (by omega) (by rw [Int.toNat_natCast, List.getElem?_map, h]; rfl)
theorem prodLin_last {t : Int} {as : List Int} (h : as ≠ []) : (prodLin t 1 as).getLast? = as.getLast? := by
  have l1 : 1 ≤ as.length := List.length_pos_iff.mpr h
  rw [List.getLast?_eq_getElem?, List.getLast?_eq_getElem?, prodLin_len]
  have e := (cf_mem (as := as) (k := as.length - 1) (by omega)).2
  rw [e]
  unfold prodLin
  rw [List.getElem?_map, List.getElem?_range (by omega)]
  show some (1 * cf as (((as.length + 1 - 1 : Nat) : Int) - 1) + -t * cf as ((as.length + 1 - 1 : Nat) : Int)) = _
  rw [cf_out (as := as) (k := ((as.length + 1 - 1 : Nat) : Int)) (by omega), show (((as.length + 1 - 1 : Nat) : Int) - 1) = ((as.length - 1 : Nat) : Int) by omega]
  simp
theorem prodLin_sz {t : Int} {as : List Int} {B T : Nat} (hB : 0 < B) (h : ∀ a ∈ as, a.natAbs < B) (ht : t.natAbs ≤ T) : ∀ a ∈ prodLin t 1 as, a.natAbs < (T + 1) * B := fun a ha => by
  have c : ∀ k : Int, (cf as k).natAbs < B := fun k => by
    by_cases hk : 0 ≤ k ∧ k < as.length
    · obtain ⟨j, rfl⟩ : ∃ j : Nat, k = j := ⟨k.toNat, by omega⟩
      exact h _ (cf_mem (by omega)).1
    · rw [cf_out (by omega)]; exact hB
  unfold prodLin at ha
  obtain ⟨k, _, rfl⟩ := List.mem_map.mp ha
  have c1 := c ((k : Int) - 1)
  have c2 := c k
  have b2 : (-t * cf as k).natAbs ≤ T * B := by
    rw [Int.natAbs_mul, Int.natAbs_neg]
    exact Nat.mul_le_mul ht (by omega)
  have := Int.natAbs_add_le (1 * cf as ((k : Int) - 1)) (-t * cf as k)
  rw [Int.one_mul] at this ⊢
  rw [Nat.add_mul, Nat.one_mul]
  omega
theorem root_sz {p c : Int} {n : Nat} (hp : 2 ≤ p) (hn : n ≤ 3) : ((c % 41 - 20) * p ^ n).natAbs + 1 ≤ p.natAbs ^ 8 := by
  obtain ⟨q, hq⟩ : ∃ q : Nat, p = q := ⟨p.toNat, by omega⟩
  subst hq
  have q2 : 2 ≤ q := by omega
  rw [Int.natAbs_mul, Int.natAbs_pow, Int.natAbs_natCast]
  have a : (c % 41 - 20).natAbs ≤ 20 := by omega
  have b : q ^ n ≤ q ^ 3 := Nat.pow_le_pow_right (by omega) hn
  have d : (c % 41 - 20).natAbs * q ^ n ≤ 20 * q ^ 3 := Nat.mul_le_mul a b
  have e : q ^ 8 = q ^ 5 * q ^ 3 := by rw [← Nat.pow_add]
  have f : 32 ≤ q ^ 5 := Nat.pow_le_pow_left q2 5
  have g : 32 * q ^ 3 ≤ q ^ 5 * q ^ 3 := Nat.mul_le_mul_right _ f
  have g3 : 1 ≤ q ^ 3 := Nat.pow_pos (by omega)
  omega
theorem rep_zeros (n : Nat) (h : n ≤ 20) : repL (.lst [.int 0]) (.int ((n : Int) + 1)) = .ok (.lst ((List.replicate (n + 1) (0 : Int)).map PV.int)) := by
  rw [repL_ok (by omega) (by omega) (by simp), show ((n : Int) + 1).toNat = n + 1 by omega, List.map_replicate]
  refine congrArg (fun l => R.ok (PV.lst l)) ?_
  have : ∀ n : Nat, (List.replicate n [PV.int 0]).flatten = List.replicate n (PV.int 0) := fun n => by
    induction n with
    | zero => rfl
    | succ n ih => rw [List.replicate_succ, List.flatten_cons, ih, List.replicate_succ]; rfl
  exact this _
theorem lin_loop {r : Int} (hr : r.natAbs < 2 ^ 300) (C M : PV) (p : Int) (s4 s6 : Slot) {as : List Int} (hl : as.length ≤ 20) (hs : ∀ a ∈ as, a.natAbs < 2 ^ 300) :
    ∃ s8', forL (gN 8) (bSeq (sSetI 7 (e2 subP (e2 ixP (eVo 7) (eVo 8)) (e2 mulP (eVo 5) (e2 ixP (eVo 3) (eVo 8)))) (eV 8)) (bSeq (sSetI 7 (e2 addP (e2 ixP (eVo 7) (e2 addP (eVo 8) (eC (.int 1)))) (e2 ixP (eVo 3) (eVo 8))) (e2 addP (eVo 8) (eC (.int 1)))) bNil)) (rngL 0 as.length) [.val C, .val (.int p), .val M, .own (as.map PV.int), s4, .val (.int r), s6, .own ((PLk r 1 as 0).map PV.int), .un] = .next [.val C, .val (.int p), .val M, .own (as.map PV.int), s4, .val (.int r), s6, .own ((prodLin r 1 as).map PV.int), s8'] := by
  obtain ⟨X, hX⟩ : ∃ X, X = as.map PV.int := ⟨_, rfl⟩
  obtain ⟨ρ', f1, s8', e⟩ := forL_rng (tgt := gN 8) (body := (bSeq (sSetI 7 (e2 subP (e2 ixP (eVo 7) (eVo 8)) (e2 mulP (eVo 5) (e2 ixP (eVo 3) (eVo 8)))) (eV 8)) (bSeq (sSetI 7 (e2 addP (e2 ixP (eVo 7) (e2 addP (eVo 8) (eC (.int 1)))) (e2 ixP (eVo 3) (eVo 8))) (e2 addP (eVo 8) (eC (.int 1)))) bNil))) (fun k ρ => ∃ s8 : Slot, ρ = [.val C, .val (.int p), .val M, .own X, s4, .val (.int r), s6, .own ((PLk r 1 as k).map PV.int), s8]) 0 as.length [.val C, .val (.int p), .val M, .own X, s4, .val (.int r), s6, .own ((PLk r 1 as 0).map PV.int), .un] ⟨.un, rfl⟩ (fun k ρ hk ⟨s8, e⟩ => by
    subst e
    obtain ⟨cm, cg⟩ := cf_mem hk
    have cs := hs _ cm
    have xk := ix_ints cg
    rw [← hX] at xk
    have m1 : mulP (.int r) (.int (cf as k)) = .ok (.int (r * cf as k)) := mulP_ii (okMul_of (m := 300) (n := 300) hr cs (by omega) (by omega) (by omega))
    have i1 := ix_ints (PLk_get (t := r) (b := 1) (as := as) (k := k) (j := k) (by omega))
    have p1 : setP ((PLk r 1 as k).map PV.int) (.int (gk r 1 as k k - r * cf as k)) (.int (k : Int)) = .ok (((PLk r 1 as k).set k (gk r 1 as k k - r * cf as k)).map PV.int) := by
      rw [setP_ok (by omega) (by rw [List.length_map, PLk_len]; omega), List.map_set, Int.toNat_natCast]
    have g2 : ((PLk r 1 as k).set k (gk r 1 as k k - r * cf as k))[k + 1]? = some (gk r 1 as k (k + 1)) := by rw [List.getElem?_set_ne (by omega), PLk_get (by omega)]
    have i2 := ix_ints g2
    rw [Int.natCast_add, Int.natCast_one] at i2
    have p2 : setP (((PLk r 1 as k).set k (gk r 1 as k k - r * cf as k)).map PV.int) (.int (gk r 1 as k (k + 1) + cf as k)) (.int ((k : Int) + 1)) = .ok ((PLk r 1 as (k + 1)).map PV.int) := by
      have st := PLk_step (t := r) (b := 1) (as := as) (k := k) hk
      rw [Int.one_mul] at st
      rw [setP_ok (by omega) (by rw [List.length_map, List.length_set, PLk_len]; omega), ← List.map_set, show ((k : Int) + 1).toNat = k + 1 by omega, st]
    generalize (PLk r 1 as (k + 1)).map PV.int = L2 at *
    generalize ((PLk r 1 as k).set k (gk r 1 as k k - r * cf as k)).map PV.int = L1 at *
    generalize (PLk r 1 as k).map PV.int = L0 at *
    refine ⟨_, .inl ?_, .val (.int (0 + (k : Int))), rfl⟩
    simp only [turnL, gN_eq, List.set_cons_succ, List.set_cons_zero, show (0 : Int) + (k : Int) = k by omega, bSeq_eq, sSetI_eq, getOwn0, getOwnS, onOwn_some, e2_eq, eVs, eV0, eVos, eVo0, eVo0', eC_eq, bind1, i1, xk, m1, subP_ii, st_ok, p1, own_ok, then_next, addP_ii, i2, p2, bNil_eq])
  subst e
  rw [PLk_done] at f1
  subst hX
  exact ⟨s8', f1⟩
theorem planted_turn {p : Int} (hp : 2 ≤ p ∧ p ≤ 97) (c : Int) (C M : PV) (s4 s5 s6 s7 s8 : Slot) (h7 : s7 = .un) {as : List Int} (hl : as.length ≤ 19) (hs : ∀ a ∈ as, a.natAbs < 2 ^ 300) :
    ∃ (r : Int) (s6' s8' : Slot), turnL (gN 4) (bSeq (sSet 5 (e2 subP (e2 modP (eVo 4) (eC (.int 41))) (eC (.int 20)))) (bSeq (sFor (iR rng1 (aCons (e2 modP (e2 fdivP (eVo 4) (eC (.int 41))) (eC (.int 4))) aNil)) (gN 6) (bSeq (sSet 5 (e2 mulP (eVo 5) (eVo 1))) bNil)) (bSeq (sSetO 7 (e2 repL (eD lstP (aCons (eC (.int 0)) aNil)) (e2 addP (eD lenP (aCons (eVo 3) aNil)) (eC (.int 1))))) (bSeq (sFor (iR rng1 (aCons (eD lenP (aCons (eVo 3) aNil)) aNil)) (gN 8) (bSeq (sSetI 7 (e2 subP (e2 ixP (eVo 7) (eVo 8)) (e2 mulP (eVo 5) (e2 ixP (eVo 3) (eVo 8)))) (eV 8)) (bSeq (sSetI 7 (e2 addP (e2 ixP (eVo 7) (e2 addP (eVo 8) (eC (.int 1)))) (e2 ixP (eVo 3) (eVo 8))) (e2 addP (eVo 8) (eC (.int 1)))) bNil))) (bSeq (sMove 3 7) bNil))))) (.int c) [.val C, .val (.int p), .val M, .own (as.map PV.int), s4, s5, s6, s7, s8] = .next [.val C, .val (.int p), .val M, .own ((prodLin r 1 as).map PV.int), .val (.int c), .val (.int r), s6', .un, s8'] ∧ r.natAbs + 1 ≤ p.natAbs ^ 8 := by
  subst h7
  have m41 := modP_pos (a := c) (b := 41) (by omega)
  have d41 := fdivP_sm (a := c) (b := 41) (by omega) (by omega)
  have m4 := modP_pos (a := c / 41) (b := 4) (by omega)
  obtain ⟨n, hn⟩ : ∃ n : Nat, c / 41 % 4 = n := ⟨(c / 41 % 4).toNat, by omega⟩
  rw [hn] at m4
  have n3 : n ≤ 3 := by omega
  have r1 : rng1 [.int (n : Int)] = .ok (rngL 0 n) := by rw [rng1_sm (by omega) (by omega)]; rfl
  obtain ⟨s6', lp⟩ := mul_loopG (i := 5) (j := 1) (a := 6) (y := p) (by omega) (by omega) (by omega) (by omega) (rngL 0 n) [.val C, .val (.int p), .val M, .own (as.map PV.int), .val (.int c), .val (.int (c % 41 - 20)), s6, .un, s8] (c % 41 - 20) 7 rfl rfl (by simp) (by omega) (by omega) (by rw [rngL_len]; omega)
  rw [rngL_len] at lp
  simp only [List.set_cons_succ, List.set_cons_zero] at lp
  have rs := root_sz (p := p) (c := c) hp.1 n3
  obtain ⟨r, hr⟩ : ∃ r, r = (c % 41 - 20) * p ^ n := ⟨_, rfl⟩
  rw [← hr] at lp rs
  have p8 : p.natAbs ^ 8 < 2 ^ 300 := Nat.lt_of_le_of_lt (Nat.pow_le_pow_left (show p.natAbs ≤ 97 by omega) 8) (by decide)
  have z0 := rep_zeros as.length (by omega)
  rw [← PLk_zero r 1 as] at z0
  have ln : lenP [.lst (as.map PV.int)] = .ok (.int as.length) := by simp
  have rA : rng1 [.int (as.length : Int)] = .ok (rngL 0 as.length) := by rw [rng1_sm (by omega) (by omega)]; rfl
  have t0 : lstP [.int 0] = .ok (.lst [.int 0]) := rfl
  -- the inner loop, whatever stands in slot 8
  have inner : ∀ s8 : Slot, ∃ s8', forL (gN 8) (bSeq (sSetI 7 (e2 subP (e2 ixP (eVo 7) (eVo 8)) (e2 mulP (eVo 5) (e2 ixP (eVo 3) (eVo 8)))) (eV 8)) (bSeq (sSetI 7 (e2 addP (e2 ixP (eVo 7) (e2 addP (eVo 8) (eC (.int 1)))) (e2 ixP (eVo 3) (eVo 8))) (e2 addP (eVo 8) (eC (.int 1)))) bNil)) (rngL 0 as.length) [.val C, .val (.int p), .val M, .own (as.map PV.int), .val (.int c), .val (.int r), s6', .own ((PLk r 1 as 0).map PV.int), s8] = .next [.val C, .val (.int p), .val M, .own (as.map PV.int), .val (.int c), .val (.int r), s6', .own ((prodLin r 1 as).map PV.int), s8'] := fun s8 => by
    obtain ⟨s8', h⟩ := lin_loop (r := r) (by omega) C M p (.val (.int c)) s6' (as := as) (by omega) hs
    cases ha : as.length with
    | zero =>
      refine ⟨s8, ?_⟩
      have : as = [] := List.length_eq_zero_iff.mp ha
      subst this
      have d := PLk_done r 1 []
      have d : PLk r 1 [] 0 = prodLin r 1 [] := d
      rw [d]
      rfl
    | succ k =>
      refine ⟨s8', ?_⟩
      rw [← h, ha]
      rw [show rngL 0 (k + 1) = .int 0 :: rngL (0 + 1) k from rngL_step ..]
      rw [forL_cons, forL_cons, gN_eq, gN_eq, onR_some, onR_some]
      simp only [List.set_cons_succ, List.set_cons_zero]
  obtain ⟨s8', f8⟩ := inner s8
  refine ⟨r, s6', s8', ?_, rs⟩
  rw [turnL_gN]
  generalize (prodLin r 1 as).map PV.int = L1 at *
  generalize (PLk r 1 as 0).map PV.int = L0 at *
  generalize as.map PV.int = X at *
  simp only [List.set_cons_succ, List.set_cons_zero]
  refine sqS (.int (c % 41 - 20)) (by simp only [e2_eq, eVos, eVo0, eC_eq, bind1, m41, subP_ii]) ?_
  simp only [List.set_cons_succ, List.set_cons_zero]
  refine sqF (rngL 0 n) (by simp only [iR_eq, aCons_eq, aNil_eq, e2_eq, eVos, eVo0, eC_eq, bind1, d41, m4, r1]) lp ?_
  refine sqN (ρ' := [.val C, .val (.int p), .val M, .own X, .val (.int c), .val (.int r), s6', .own L0, s8]) (by
    simp only [sSetO_eq, e2_eq, eD_eq, aCons_eq, aNil_eq, eVos, eVo0, eVo0', eC_eq, bind1, t0, ln, addP_ii, z0, st_ok, asL_l, own_ok, List.set_cons_succ, List.set_cons_zero]) ?_
  refine sqF (rngL 0 as.length) (by simp only [iR_eq, eD_eq, aCons_eq, aNil_eq, eVos, eVo0, eVo0', bind1, ln, rA]) f8 ?_
  rw [bSeq_eq]
  show (sMove 3 7 _).then _ = _
  unfold sMove
  rfl
theorem planted_loop {p : Int} (hp : 2 ≤ p ∧ p ≤ 97) (C M : PV) : ∀ (cs : List Int) (as : List Int) (N : Nat) (s4 s5 s6 s8 : Slot), as ≠ [] → NzL as → as.length + cs.length ≤ 19 → (∀ a ∈ as, a.natAbs < p.natAbs ^ N) → N + 8 * cs.length ≤ 40 →
    ∃ (as' : List Int) (s4' s5' s6' s8' : Slot), forL (gN 4) (bSeq (sSet 5 (e2 subP (e2 modP (eVo 4) (eC (.int 41))) (eC (.int 20)))) (bSeq (sFor (iR rng1 (aCons (e2 modP (e2 fdivP (eVo 4) (eC (.int 41))) (eC (.int 4))) aNil)) (gN 6) (bSeq (sSet 5 (e2 mulP (eVo 5) (eVo 1))) bNil)) (bSeq (sSetO 7 (e2 repL (eD lstP (aCons (eC (.int 0)) aNil)) (e2 addP (eD lenP (aCons (eVo 3) aNil)) (eC (.int 1))))) (bSeq (sFor (iR rng1 (aCons (eD lenP (aCons (eVo 3) aNil)) aNil)) (gN 8) (bSeq (sSetI 7 (e2 subP (e2 ixP (eVo 7) (eVo 8)) (e2 mulP (eVo 5) (e2 ixP (eVo 3) (eVo 8)))) (eV 8)) (bSeq (sSetI 7 (e2 addP (e2 ixP (eVo 7) (e2 addP (eVo 8) (eC (.int 1)))) (e2 ixP (eVo 3) (eVo 8))) (e2 addP (eVo 8) (eC (.int 1)))) bNil))) (bSeq (sMove 3 7) bNil))))) (cs.map PV.int) [.val C, .val (.int p), .val M, .own (as.map PV.int), s4, s5, s6, .un, s8] = .next [.val C, .val (.int p), .val M, .own (as'.map PV.int), s4', s5', s6', .un, s8'] ∧ as'.length = as.length + cs.length ∧ NzL as' ∧ ∀ a ∈ as', a.natAbs < p.natAbs ^ (N + 8 * cs.length)
  | [], as, N, s4, s5, s6, s8, _, nz, _, hb, _ => ⟨as, s4, s5, s6, s8, rfl, rfl, nz, hb⟩
  | c :: cs, as, N, s4, s5, s6, s8, hne, nz, hl, hb, hN => by
    rw [List.length_cons] at hl hN
    have b300 : ∀ a ∈ as, a.natAbs < 2 ^ 300 := fun a ha => by
      have h1 := hb a ha
      have h2 : p.natAbs ^ N ≤ 97 ^ N := Nat.pow_le_pow_left (by omega) N
      have h3 : (97 : Nat) ^ N ≤ 97 ^ 40 := Nat.pow_le_pow_right (by omega) (by omega)
      have h4 : (97 : Nat) ^ 40 < 2 ^ 300 := by decide
      omega
    obtain ⟨r, s6', s8', t1, rs⟩ := planted_turn hp c C M s4 s5 s6 .un s8 rfl (as := as) (by omega) b300
    have pz : 0 < p.natAbs ^ N := Nat.pow_pos (by omega)
    have sz := prodLin_sz pz hb (Nat.le_refl r.natAbs)
    obtain ⟨as', s4', s5', s6'', s8'', ih, il, inz, ib⟩ := planted_loop hp C M cs (prodLin r 1 as) (N + 8) (.val (.int c)) (.val (.int r)) s6' s8' (fun z => by have := prodLin_len r 1 as; rw [z] at this; simp at this) (by
      obtain ⟨x, e, n⟩ := nz
      exact ⟨x, (prodLin_last hne).trans e, n⟩) (by rw [prodLin_len]; omega) (fun a ha => by
      have h1 := sz a ha
      have h2 : (r.natAbs + 1) * p.natAbs ^ N ≤ p.natAbs ^ 8 * p.natAbs ^ N := Nat.mul_le_mul_right _ rs
      rw [Nat.add_comm N 8, Nat.pow_add]
      omega) (by omega)
    refine ⟨as', s4', s5', s6'', s8'', ?_, by rw [il, prodLin_len, List.length_cons]; omega, inz, fun a ha => by have := ib a ha; rw [List.length_cons, show N + 8 * (cs.length + 1) = N + 8 + 8 * cs.length by omega]; exact this⟩
    rw [List.map_cons]
    unfold turnL at t1
    unfold forL
    cases hg : gN 4 (.int c) [.val C, .val (.int p), .val M, .own (as.map PV.int), s4, s5, s6, .un, s8] with
    | none => rw [hg] at t1; cases t1
    | some ρ' =>
      rw [hg] at t1
      dsimp only at t1 ⊢
      rw [t1]
      exact ih
theorem f_planted {p : Int} (hp : 2 ≤ p ∧ p ≤ 97) (m : Int) {cs : List Int} (h1 : 1 ≤ cs.length) (h4 : cs.length ≤ 4) : ∃ as : List Int, F__law_planted [.lst (cs.map PV.int), .int p, .int m] = .ok (.lst (as.map PV.int)) ∧ as.length = cs.length + 1 ∧ NzL as ∧ ∀ a ∈ as, a.natAbs < p.natAbs ^ 40 := by
  have m20 := modP_pos (a := m) (b := 20) (by omega)
  have d20 := fdivP_sm (a := m) (b := 20) (by omega) (by omega)
  have m4 := modP_pos (a := m / 20) (b := 4) (by omega)
  have pn2 : 2 ≤ p.natAbs := by omega
  have p5 : 32 ≤ p.natAbs ^ 5 := Nat.pow_le_pow_left pn2 5
  obtain ⟨f, hf⟩ : ∃ f, f = 1 + m % 20 := ⟨_, rfl⟩
  have fb : 1 ≤ f ∧ f ≤ 20 := by omega
  obtain ⟨as, s4, s5, s6, s8, lp, al, nz, ab⟩ := planted_loop hp (.lst (cs.map PV.int)) (.int m) cs [f] 5 .un .un .un .un (by simp) ⟨f, rfl, by omega⟩ (by simp; omega) (fun a ha => by rw [List.mem_singleton.mp ha]; omega) (by omega)
  rw [List.length_singleton] at al
  have l1 : lstP [.int f] = .ok (.lst ([f].map PV.int)) := rfl
  have ct : slP (.lst (cs.map PV.int)) none (some 4) = .ok (.lst (cs.map PV.int)) := by
    rw [slP_l, cut_take _ _ (by omega), List.take_of_length_le (by rw [List.length_map]; omega)]
  obtain ⟨a0, ar, rfl⟩ : ∃ a0 ar, as = a0 :: ar := by
    cases as with
    | nil => simp at al; omega
    | cons a0 ar => exact ⟨a0, ar, rfl⟩
  have lar : 1 ≤ ar.length := by rw [List.length_cons] at al; omega
  have nz' : ∀ b, NzL (b :: ar) := fun b => by
    obtain ⟨x, e, n⟩ := nz
    cases ar with
    | nil => simp at lar
    | cons y ys => exact ⟨x, by rw [List.getLast?_cons_cons] at e ⊢; exact e, n⟩
  have i0 : ∀ b : Int, ixP (.lst ((b :: ar).map PV.int)) (.int 0) = .ok (.int b) := fun b => ixP_l0
  have sp : ∀ b b' : Int, setP ((b :: ar).map PV.int) (.int b') (.int 0) = .ok ((b' :: ar).map PV.int) := fun b b' => by rw [setP_ok (by omega) (by simp)]; rfl
  have pw : p.natAbs ^ 37 + p.natAbs ≤ p.natAbs ^ 40 := by
    have h1 : p.natAbs ≤ p.natAbs ^ 37 := Nat.le_self_pow (by omega) _
    have h2 : p.natAbs ^ 40 = p.natAbs ^ 3 * p.natAbs ^ 37 := by rw [← Nat.pow_add]
    have h3 : 8 ≤ p.natAbs ^ 3 := Nat.pow_le_pow_left pn2 3
    have h4 : 8 * p.natAbs ^ 37 ≤ p.natAbs ^ 3 * p.natAbs ^ 37 := Nat.mul_le_mul_right _ h3
    omega
  have ab37 : ∀ a ∈ a0 :: ar, a.natAbs < p.natAbs ^ 37 := fun a ha => Nat.lt_of_lt_of_le (ab a ha) (Nat.pow_le_pow_right (by omega) (by omega))
  -- what stands behind the loop
  have fin : ∃ b : Int, ((bSeq (sIf (tB1 (e2 eqP (e2 modP (e2 fdivP (eVo 2) (eC (.int 20))) (eC (.int 4))) (eC (.int 1)))) (bSeq (sSetI 3 (e2 addP (e2 ixP (eVo 3) (eC (.int 0))) (eC (.int 1))) (eC (.int 0))) bNil) bNil) (bSeq (sIf (tB1 (e2 eqP (e2 modP (e2 fdivP (eVo 2) (eC (.int 20))) (eC (.int 4))) (eC (.int 2)))) (bSeq (sSetI 3 (e2 addP (e2 ixP (eVo 3) (eC (.int 0))) (eVo 1)) (eC (.int 0))) bNil) bNil) (bSeq (sRetO 3) bNil))) [.val (.lst (cs.map PV.int)), .val (.int p), .val (.int m), .own ((a0 :: ar).map PV.int), s4, s5, s6, .un, s8]).res = .ok (.lst ((b :: ar).map PV.int)) ∧ b.natAbs < p.natAbs ^ 40 := by
    have a0b := ab37 a0 List.mem_cons_self
    by_cases c1 : m / 20 % 4 = 1
    · have b1 : (m / 20 % 4 == 1) = true := by rw [beq_iff_eq]; exact c1
      have b2 : (m / 20 % 4 == 2) = false := by rw [beq_eq_false_iff_ne]; omega
      refine ⟨a0 + 1, ?_, by omega⟩
      have i00 := i0 a0
      have sp0 := sp a0 (a0 + 1)
      generalize (a0 :: ar).map PV.int = L0 at *
      generalize ((a0 + 1) :: ar).map PV.int = L1 at *
      generalize PV.lst (cs.map PV.int) = CC at *
      simp only [bSeq_eq, sIf_eq, tB1_eq, e2_eq, eVos, eVo0, eVo0', eVs, eV0, eC_eq, bind1, d20, m4, eqP_ii, b1, b2, asB_eq, stB_ok, if_true, if_neg Bool.false_ne_true, sSetI_eq, getOwn0, getOwnS, onOwn_some, i00, addP_ii, st_ok, sp0, own_ok, List.set_cons_succ, List.set_cons_zero, then_next, bNil_eq, sRetO_eq, then_ret, res_ret]
    · have b1 : (m / 20 % 4 == 1) = false := by rw [beq_eq_false_iff_ne]; exact c1
      by_cases c2 : m / 20 % 4 = 2
      · have b2 : (m / 20 % 4 == 2) = true := by rw [beq_iff_eq]; exact c2
        refine ⟨a0 + p, ?_, by omega⟩
        have i00 := i0 a0
        have sp0 := sp a0 (a0 + p)
        generalize (a0 :: ar).map PV.int = L0 at *
        generalize ((a0 + p) :: ar).map PV.int = L1 at *
        generalize PV.lst (cs.map PV.int) = CC at *
        simp only [bSeq_eq, sIf_eq, tB1_eq, e2_eq, eVos, eVo0, eVo0', eVs, eV0, eC_eq, bind1, d20, m4, eqP_ii, b1, b2, asB_eq, stB_ok, if_true, if_neg Bool.false_ne_true, sSetI_eq, getOwn0, getOwnS, onOwn_some, i00, addP_ii, st_ok, sp0, own_ok, List.set_cons_succ, List.set_cons_zero, then_next, bNil_eq, sRetO_eq, then_ret, res_ret]
      · have b2 : (m / 20 % 4 == 2) = false := by rw [beq_eq_false_iff_ne]; exact c2
        refine ⟨a0, ?_, by omega⟩
        generalize (a0 :: ar).map PV.int = L0 at *
        generalize PV.lst (cs.map PV.int) = CC at *
        simp only [bSeq_eq, sIf_eq, tB1_eq, e2_eq, eVos, eVo0, eVo0', eVs, eV0, eC_eq, bind1, d20, m4, eqP_ii, b1, b2, asB_eq, stB_ok, if_neg Bool.false_ne_true, then_next, bNil_eq, getOwn0, getOwnS, onOwn_some, sRetO_eq, then_ret, res_ret]
  obtain ⟨b, fe, bb⟩ := fin
  refine ⟨b :: ar, (runF_eq (n := 9) (u := D__law_planted)).trans ?_, by rw [List.length_cons] at al ⊢; omega, nz' b, fun a ha => ?_⟩
  · show (D__law_planted [.val (.lst (cs.map PV.int)), .val (.int p), .val (.int m), .un, .un, .un, .un, .un, .un]).res = _
    unfold D__law_planted
    refine stpN (ρ' := [.val (.lst (cs.map PV.int)), .val (.int p), .val (.int m), .own ([f].map PV.int), .un, .un, .un, .un, .un]) (by
      simp only [sSetO_eq, e2_eq, eD_eq, aCons_eq, aNil_eq, eVos, eVo0, eC_eq, bind1, m20, addP_ii, ← hf, l1, st_ok, asL_l, own_ok, List.set_cons_succ, List.set_cons_zero]) ?_
    refine stpFor (cs.map PV.int) _ (by simp only [iS_eq, eSl_eq, oNone_eq, oSome_eq, eVo0, eC_eq, bind1, asI_eq, ct, asS_l]) lp ?_
    exact fe
  · rcases List.mem_cons.mp ha with rfl | ha
    · exact bb
    · have := ab37 a (List.mem_cons_of_mem _ ha)
      omega
theorem dget_ok {i : Nat} {fk fz : Rho → R PV} {ρ : Rho} {a : Addr} {l : DL} {k z : PV} {q : Int × Int} {d : Int} (h : ρ[i]? = some (.dd a l)) (hk : fk ρ = .ok k) (hz : fz ρ = .ok z) (ak : asKey k = some q) (az : asInt z = some d) : eDGet i fk fz ρ = .ok (.int ((valD l q).getD d)) := by
  unfold eDGet
  rw [h]
  dsimp only
  rw [hk, R.bind_ok, hz, R.bind_ok, ak, az]
theorem dput_ok {i : Nat} {fv fk : Rho → R PV} {ρ : Rho} {a : Addr} {l : DL} {k v : PV} {q : Int × Int} {d : Int} (h : ρ[i]? = some (.dd a l)) (hv : fv ρ = .ok v) (hk : fk ρ = .ok k) (ak : asKey k = some q) (av : asInt v = some d) (hl : l.length < 1000000) : sDPut' i fv fk ρ = .next (ρ.set i (.dd a (putD l q d))) := by
  unfold sDPut'
  rw [h]
  dsimp only
  unfold sE
  rw [hv]
  dsimp only
  rw [hk]
  dsimp only
  rw [ak, av]
  dsimp only
  rw [if_pos hl]
theorem put_len (d : DL) (k : Int × Int) (v : Int) : (putD d k v).length ≤ d.length + 1 := by
  unfold putD
  split
  · rw [List.length_map]; omega
  · rw [List.length_append]; simp
theorem put_loop (X Y : PV) (a : Addr) (s5 s6 : Slot) : ∀ (L d : DL) (s3 s4 : Slot), d.length + L.length ≤ 1000 → ∃ s3' s4', forL (gT (gsCons (gN 3) (gsCons (gN 4) gsNil))) (bSeq (sDPut' 2 (eV 4) (eV 3)) bNil) (L.map pcD) [.val X, .val Y, .dd a d, s3, s4, s5, s6] = .next [.val X, .val Y, .dd a (L.foldl (fun d e => putD d e.1 e.2) d), s3', s4', s5, s6]
  | [], d, s3, s4, _ => ⟨s3, s4, rfl⟩
  | e :: L, d, s3, s4, hl => by
    rw [List.length_cons] at hl
    have pl := put_len d e.1 e.2
    obtain ⟨s3', s4', ih⟩ := put_loop X Y a s5 s6 L (putD d e.1 e.2) (.val (kP e.1)) (.val (.int e.2)) (by omega)
    refine ⟨s3', s4', ?_⟩
    rw [List.map_cons]
    unfold forL
    have tg : gT (gsCons (gN 3) (gsCons (gN 4) gsNil)) (pcD e) [.val X, .val Y, .dd a d, s3, s4, s5, s6] = some [.val X, .val Y, .dd a d, .val (kP e.1), .val (.int e.2), s5, s6] := rfl
    rw [tg]
    dsimp only
    have dp := dput_ok (i := 2) (fv := eV 4) (fk := eV 3) (ρ := [.val X, .val Y, .dd a d, .val (kP e.1), .val (.int e.2), s5, s6]) (a := a) (l := d) (k := kP e.1) (v := .int e.2) (q := e.1) (d := e.2) rfl (by simp only [eVs, eV0]) (by simp only [eVs, eV0]) rfl rfl (by omega)
    have tb : bSeq (sDPut' 2 (eV 4) (eV 3)) bNil [.val X, .val Y, .dd a d, .val (kP e.1), .val (.int e.2), s5, s6] = .next [.val X, .val Y, .dd a (putD d e.1 e.2), .val (kP e.1), .val (.int e.2), s5, s6] := by
      rw [bSeq_eq, dp]
      simp only [then_next, bNil_eq, List.set_cons_succ, List.set_cons_zero]
    rw [tb]
    exact ih
theorem puts_val (k : Int × Int) : ∀ (L d : DL), (keysD L).Nodup → (valD (L.foldl (fun d e => putD d e.1 e.2) d) k).getD 0 = if k ∈ keysD L then smD L k else (valD d k).getD 0
  | [], d, _ => by rw [if_neg (by unfold keysD; simp)]; rfl
  | e :: L, d, h => by
    have h' := List.nodup_cons.mp (show (e.1 :: keysD L).Nodup from h)
    rw [List.foldl_cons, puts_val k L _ h'.2, val_put]
    have ks : keysD (e :: L) = e.1 :: keysD L := rfl
    rw [ks]
    by_cases c : k = e.1
    · subst c
      rw [if_neg h'.1, if_pos rfl, if_pos List.mem_cons_self]
      have := sm_in (L := e :: L) h (e := e) List.mem_cons_self
      rw [this]; rfl
    · by_cases m : k ∈ keysD L
      · rw [if_pos m, if_pos (List.mem_cons_of_mem _ m)]
        show smD L k = (if e.1 = k then e.2 else 0) + smD L k
        rw [if_neg (fun z => c z.symm), Int.zero_add]
      · rw [if_neg m, if_neg c, if_neg (fun z => (List.mem_cons.mp z).elim c m)]
theorem kept_loop {α : Type} (f : α → PV) (g : α → Int) (X Y : PV) (a : Addr) : ∀ (ks : List α) (d : DL) (s3 s4 s5 s6 : Slot), d.length + ks.length < 1000000 → (∀ q ∈ ks, ixP (f q) (.int 1) = .ok (.int (g q))) → (∀ e : Int, ((ks.filter fun q => decide (g q = e)).length : Int) ≤ (valD d (e, 1)).getD 0) →
    ∃ d' s5' s6', forL (gN 5) (bSeq (sSet 6 (eDGet 2 (eD tupP (aCons (e2 ixP (eVo 5) (eC (.int 1))) (aCons (eC (.int 1)) aNil))) (eC (.int 0)))) (bSeq (sIf (tB1 (e2 ltP (eVo 6) (eC (.int 1)))) (bSeq (sRet (eC (.bl false))) bNil) bNil) (bSeq (sDPut' 2 (e2 subP (eVo 6) (eC (.int 1))) (eD tupP (aCons (e2 ixP (eVo 5) (eC (.int 1))) (aCons (eC (.int 1)) aNil)))) bNil))) (ks.map f) [.val X, .val Y, .dd a d, s3, s4, s5, s6] = .next [.val X, .val Y, .dd a d', s3, s4, s5', s6']
  | [], d, s3, s4, s5, s6, _, _, _ => ⟨d, s5, s6, rfl⟩
  | q :: ks, d, s3, s4, s5, s6, hl, hi, hc => by
    rw [List.length_cons] at hl
    have iq := hi q List.mem_cons_self
    obtain ⟨v, hv⟩ : ∃ v, v = (valD d (g q, 1)).getD 0 := ⟨_, rfl⟩
    have v1 : 1 ≤ v := by
      have := hc (g q)
      rw [List.filter_cons_of_pos (by simp), List.length_cons, ← hv] at this
      omega
    have pl := put_len d (g q, 1) (v - 1)
    obtain ⟨d', s5', s6', ih⟩ := kept_loop f g X Y a ks (putD d (g q, 1) (v - 1)) s3 s4 (.val (f q)) (.val (.int v)) (by omega) (fun z hz => hi z (List.mem_cons_of_mem _ hz)) (fun e => by
      rw [val_put]
      have h := hc e
      by_cases c : g q = e
      · subst c
        rw [List.filter_cons_of_pos (by simp), List.length_cons, ← hv] at h
        rw [if_pos rfl]
        show _ ≤ v - 1
        omega
      · rw [List.filter_cons_of_neg (by simp [c])] at h
        rw [if_neg (fun z => c (congrArg Prod.fst z).symm)]
        exact h)
    refine ⟨d', s5', s6', ?_⟩
    rw [← ih, List.map_cons, forL_cons, gN_eq, onR_some]
    simp only [List.set_cons_succ, List.set_cons_zero]
    refine foN ?_
    have kt : tupP [.int (g q), .int 1] = .ok (kP (g q, 1)) := rfl
    have kk : ∀ s6 : Slot, eD tupP (aCons (e2 ixP (eVo 5) (eC (.int 1))) (aCons (eC (.int 1)) aNil)) [.val X, .val Y, .dd a d, s3, s4, .val (f q), s6] = .ok (kP (g q, 1)) := fun s6 => by
      simp only [eD_eq, aCons_eq, aNil_eq, e2_eq, eVos, eVo0, eC_eq, bind1, iq, kt]
    have dg := dget_ok (i := 2) (fk := eD tupP (aCons (e2 ixP (eVo 5) (eC (.int 1))) (aCons (eC (.int 1)) aNil))) (fz := eC (.int 0)) (ρ := [.val X, .val Y, .dd a d, s3, s4, .val (f q), s6]) (a := a) (l := d) (k := kP (g q, 1)) (z := .int 0) (q := (g q, 1)) (d := 0) rfl (kk _) rfl rfl rfl
    rw [← hv] at dg
    have lt : decide (v < 1) = false := decide_eq_false (by omega)
    refine sqS (.int v) dg ?_
    simp only [List.set_cons_succ, List.set_cons_zero]
    refine sqK (by simp only [tB1_eq, e2_eq, eVos, eVo0, eC_eq, bind1, ltP_ii, lt, asB_eq]) ?_
    have dp := dput_ok (i := 2) (fv := e2 subP (eVo 6) (eC (.int 1))) (fk := eD tupP (aCons (e2 ixP (eVo 5) (eC (.int 1))) (aCons (eC (.int 1)) aNil))) (ρ := [.val X, .val Y, .dd a d, s3, s4, .val (f q), .val (.int v)]) (a := a) (l := d) (k := kP (g q, 1)) (v := .int (v - 1)) (q := (g q, 1)) (d := v - 1) rfl (by simp only [e2_eq, eVos, eVo0, eC_eq, bind1, subP_ii]) (kk _) rfl rfl (by omega)
    rw [bSeq_eq, dp]
    simp only [then_next, bNil_eq, List.set_cons_succ, List.set_cons_zero]
theorem f_within {α : Type} (f : α → PV) (g : α → Int) {ks : List α} {L : DL} (hn : (keysD L).Nodup) (hL : L.length ≤ 100) (hk : ks.length ≤ 900000) (hi : ∀ q ∈ ks, ixP (f q) (.int 1) = .ok (.int (g q))) (hc : ∀ e : Int, ((ks.filter fun q => decide (g q = e)).length : Int) ≤ smD L (e, 1)) :
    F__law_within [.lst (ks.map f), .lst (L.map pcD)] = .ok (.bl true) := by
  refine runDt_bl (by decide) fun a => ?_
  show D__law_within [.val (.lst (ks.map f)), .val (.lst (L.map pcD)), .dd a [], .un, .un, .un, .un] = _
  obtain ⟨X, hX⟩ : ∃ X, X = PV.lst (ks.map f) := ⟨_, rfl⟩
  obtain ⟨Y, hY⟩ : ∃ Y, Y = PV.lst (L.map pcD) := ⟨_, rfl⟩
  rw [← hX, ← hY]
  obtain ⟨s3, s4, f1⟩ := put_loop X Y a .un .un L [] .un .un (by simp; omega)
  obtain ⟨d, hd⟩ : ∃ d, d = L.foldl (fun d e => putD d e.1 e.2) [] := ⟨_, rfl⟩
  rw [← hd] at f1
  have dl : d.length ≤ 1000 := by
    rw [hd]
    have : ∀ (L d : DL), (L.foldl (fun d e => putD d e.1 e.2) d).length ≤ d.length + L.length := fun L => by
      induction L with
      | nil => intro d; simp
      | cons e L ih =>
        intro d
        rw [List.foldl_cons, List.length_cons]
        have := ih (putD d e.1 e.2)
        have := put_len d e.1 e.2
        omega
    have := this L []
    simp at this
    omega
  obtain ⟨d', s5, s6, f2⟩ := kept_loop f g X Y a ks d s3 s4 .un .un (by omega) hi (fun e => by
    have h := hc e
    rw [hd, puts_val _ _ _ hn]
    split
    · exact h
    · rename_i m
      rw [sm_out m] at h
      exact h)
  have e1 : sFor (iS (eV 1)) (gT (gsCons (gN 3) (gsCons (gN 4) gsNil))) (bSeq (sDPut' 2 (eV 4) (eV 3)) bNil) [.val X, .val Y, .dd a [], .un, .un, .un, .un] = .next [.val X, .val Y, .dd a d, s3, s4, .un, .un] := by
    rw [sFor_eq]
    simp only [iS_eq, eVs, eV0, bind1, hY, asS_l, stL_ok]
    rw [← hY]
    exact f1
  have e2' : sFor (iS (eV 0)) (gN 5) (bSeq (sSet 6 (eDGet 2 (eD tupP (aCons (e2 ixP (eVo 5) (eC (.int 1))) (aCons (eC (.int 1)) aNil))) (eC (.int 0)))) (bSeq (sIf (tB1 (e2 ltP (eVo 6) (eC (.int 1)))) (bSeq (sRet (eC (.bl false))) bNil) bNil) (bSeq (sDPut' 2 (e2 subP (eVo 6) (eC (.int 1))) (eD tupP (aCons (e2 ixP (eVo 5) (eC (.int 1))) (aCons (eC (.int 1)) aNil)))) bNil))) [.val X, .val Y, .dd a d, s3, s4, .un, .un] = .next [.val X, .val Y, .dd a d', s3, s4, s5, s6] := by
    rw [sFor_eq]
    simp only [iS_eq, eVs, eV0, bind1, hX, asS_l, stL_ok]
    rw [← hX]
    exact f2
  unfold D__law_within bSeqD
  rw [e1]
  dsimp only
  rw [if_pos (show addD 2 [.val X, .val Y, .dd a d, s3, s4, .un, .un] = addD 2 [.val X, .val Y, .dd a [], .un, .un, .un, .un] from rfl), e2']
  dsimp only
  rw [if_pos (show addD 2 [.val X, .val Y, .dd a d', s3, s4, s5, s6] = addD 2 [.val X, .val Y, .dd a d, s3, s4, .un, .un] from rfl)]
  rfl
noncomputable def rootV (p : Int) (J : Nat) (q : PM.Row × Int) : PV := leftV p (lead (digs p q.2 J)) (strip (digs p q.2 J))
theorem rows_loop {p : Int} (hp : p ∈ primesL) {cs : List Int} {n J : Nat} (h : NzL cs) (h2 : 2 ≤ cs.length) (h9 : cs.length ≤ 9) (hb : ∀ c ∈ cs, c.natAbs < 2 ^ 300) (hn : n ≤ 12) (hJ : 12 ≤ J) (hJ4 : J ≤ 400) (S w C3 : PV) (s10 s11 s12 s13 : Slot) :
    ∀ (rows : List PM.Row) (done : List (PM.Row × Int)) (s7 s8 s9 : Slot), done.length + rows.length ≤ 900000 → (∀ r ∈ rows, r ∈ tree p cs n) →
    ∃ (ls : List (PM.Row × Int)) (s7' s8' s9' : Slot), forL (gT (gsCons (gN 7) (gsCons (gN 8) (gsCons (gN 9) gsNil)))) (bSeq (sIf (tB1 (e2 eqP (eVo 8) (eC (.str "one")))) (bSeq (sMut 6 appP (eD F_root_of (aCons (eV 2) (aCons (eV 4) (aCons (eV 7) (aCons (eV 5) aNil)))))) bNil) bNil) bNil) (rows.map rowV) [.val S, .val w, .val (.int p), .val C3, .val (.lst (cs.map PV.int)), .val (.int (J : Int)), .own (done.map (rootV p J)), s7, s8, s9, s10, s11, s12, s13] = .next [.val S, .val w, .val (.int p), .val C3, .val (.lst (cs.map PV.int)), .val (.int (J : Int)), .own ((done ++ ls).map (rootV p J)), s7', s8', s9', s10, s11, s12, s13] ∧
      ls.map (·.1) = rows.filter (fun r => r.word == wOne) ∧ ∀ q ∈ ls, q.1 ∈ tree p cs n ∧ q.1.word = wOne ∧ Rt p cs q.1 J q.2
  | [], done, s7, s8, s9, _, _ => ⟨[], s7, s8, s9, by rw [List.append_nil]; rfl, rfl, fun _ z => nomatch z⟩
  | r :: rows, done, s7, s8, s9, hl, hr => by
    rw [List.length_cons] at hl
    have hrt := hr r List.mem_cons_self
    obtain ⟨s, d, Ro⟩ := tree_row hrt
    have sl := Ro.slen
    have rl := Ro.len
    have so : PyData.strOk r.word = true := by rcases row_word Ro with e | e | e <;> rw [e] <;> first | exact ok_none | exact ok_one | exact ok_open
    have eq := eq_ss so ok_one
    have tg : ∀ ρ7 : List (PM.Row × Int), gT (gsCons (gN 7) (gsCons (gN 8) (gsCons (gN 9) gsNil))) (rowV r) [.val S, .val w, .val (.int p), .val C3, .val (.lst (cs.map PV.int)), .val (.int (J : Int)), .own (ρ7.map (rootV p J)), s7, s8, s9, s10, s11, s12, s13] = some [.val S, .val w, .val (.int p), .val C3, .val (.lst (cs.map PV.int)), .val (.int (J : Int)), .own (ρ7.map (rootV p J)), .val (.tup (r.stem.map PV.int)), .val (.str r.word), .val (.int r.num), s10, s11, s12, s13] := fun _ => rfl
    have one : (("one" : Str)) = wOne := rfl
    by_cases hw : r.word = wOne
    · obtain ⟨x, R, fx⟩ := rt_ex hp h h2 h9 hb hn Ro hw (J := J) (by omega) hJ4
      have rv : leftV p (lead (digs p x J)) (strip (digs p x J)) = rootV p J (r, x) := rfl
      rw [rv] at fx
      obtain ⟨ls, s7', s8', s9', ih, im, iR'⟩ := rows_loop hp h h2 h9 hb hn hJ hJ4 S w C3 s10 s11 s12 s13 rows (done ++ [(r, x)]) (.val (.tup (r.stem.map PV.int))) (.val (.str r.word)) (.val (.int r.num)) (by rw [List.length_append, List.length_singleton]; omega) (fun q hq => hr q (List.mem_cons_of_mem _ hq))
      have bw : (r.word == wOne) = true := by rw [beq_iff_eq]; exact hw
      refine ⟨(r, x) :: ls, s7', s8', s9', ?_, by rw [List.map_cons, List.filter_cons_of_pos (by simpa using hw), im], fun q hq => ?_⟩
      · rw [show done ++ (r, x) :: ls = done ++ [(r, x)] ++ ls by simp, ← ih, List.map_cons, forL_cons, tg, onR_some]
        refine foN ?_
        have ap : appP (done.map (rootV p J)) (rootV p J (r, x)) = .ok ((done ++ [(r, x)]).map (rootV p J)) := by rw [appP_ok (by rw [List.length_map]; omega), List.map_append]; rfl
        generalize (done ++ [(r, x)]).map (rootV p J) = L1 at *
        generalize done.map (rootV p J) = L0 at *
        generalize PV.lst (cs.map PV.int) = A at *
        rw [bw] at eq
        simp only [bSeq_eq, sIf_eq, tB1_eq, e2_eq, eVos, eVo0, eC_eq, bind1, one, eq, asB_eq, stB_ok, if_true, sMut_eq, getOwn0, getOwnS, onOwn_some, eD_eq, aCons_eq, aNil_eq, eVs, eV0, fx, st_ok, ap, own_ok, List.set_cons_succ, List.set_cons_zero, then_next, bNil_eq]
      · rcases List.mem_cons.mp hq with rfl | hq
        · exact ⟨hrt, hw, R⟩
        · exact iR' q hq
    · obtain ⟨ls, s7', s8', s9', ih, im, iR'⟩ := rows_loop hp h h2 h9 hb hn hJ hJ4 S w C3 s10 s11 s12 s13 rows done (.val (.tup (r.stem.map PV.int))) (.val (.str r.word)) (.val (.int r.num)) (by omega) (fun q hq => hr q (List.mem_cons_of_mem _ hq))
      have bw : (r.word == wOne) = false := by rw [beq_eq_false_iff_ne]; exact hw
      refine ⟨ls, s7', s8', s9', ?_, by rw [List.filter_cons_of_neg (by simpa using hw), im], iR'⟩
      rw [← ih, List.map_cons, forL_cons, tg, onR_some]
      refine foN ?_
      rw [bw] at eq
      simp only [bSeq_eq, sIf_eq, tB1_eq, e2_eq, eVos, eVo0, eC_eq, bind1, one, eq, asB_eq, stB_ok, if_neg Bool.false_ne_true, then_next, bNil_eq]
theorem root_at {p : Int} {J : Nat} (q : PM.Row × Int) : ixP (rootV p J q) (.int 1) = .ok (.int (lead (digs p q.2 J) : Nat)) ∧ ixP (rootV p J q) (.int 2) = .ok (.tup ((strip (digs p q.2 J)).map PV.int)) := by
  constructor <;> simp [rootV, leftV]
theorem check_loop {p : Int} (hp : p ∈ primesL) {J : Nat} (hJ4 : J ≤ 400) (S w C3 A R6 : PV) (s7 s8 s9 s11 s12 s13 : Slot) : ∀ (ls : List (PM.Row × Int)) (s10 : Slot), (s10 = .un ∨ ∃ v, s10 = .val v) → ∃ s10', forL (gN 10) (bSeq (sIf (tOr' (tNt (tB1 (eD F__law_is_left (aCons (eV 10) (aCons (eV 2) aNil))))) (tOr' (tB1 (e2 neP (e2 addP (e2 ixP (eVo 10) (eC (.int 1))) (eD lenP (aCons (e2 ixP (eVo 10) (eC (.int 2))) aNil))) (eVo 5))) (tB1 (e2 ltP (e2 ixP (eVo 10) (eC (.int 1))) (eC (.int 0)))))) (bSeq (sRet (eC (.bl false))) bNil) bNil) bNil) (ls.map (rootV p J)) [.val S, .val w, .val (.int p), .val C3, .val A, .val (.int (J : Int)), .val R6, s7, s8, s9, s10, s11, s12, s13] = .next [.val S, .val w, .val (.int p), .val C3, .val A, .val (.int (J : Int)), .val R6, s7, s8, s9, s10', s11, s12, s13] ∧ (s10' = .un ∨ ∃ v, s10' = .val v)
  | [], s10, h => ⟨s10, rfl, h⟩
  | q :: ls, s10, _ => by
    obtain ⟨s10', ih, n10⟩ := check_loop hp hJ4 S w C3 A R6 s7 s8 s9 s11 s12 s13 ls (.val (rootV p J q)) (.inr ⟨_, rfl⟩)
    refine ⟨s10', ?_, n10⟩
    have hp2 := (primesL_le p hp).1
    have lf : Lf p (strip (digs p q.2 J)) 1000 := lf_strip hp (digs_Dg hp2 J q.2) (by rw [digs_len]; omega)
    have il := f_is_left_l p (lead (digs p q.2 J)) (strip (digs p q.2 J)) lf
    have il : F__law_is_left [rootV p J q, .int p] = .ok (.bl true) := il
    obtain ⟨r1, r2⟩ := root_at (p := p) (J := J) q
    have ln : lenP [.tup ((strip (digs p q.2 J)).map PV.int)] = .ok (.int ((strip (digs p q.2 J)).length : Nat)) := by simp
    have sl := strip_len (digs p q.2 J)
    have ll := lead_le (digs p q.2 J)
    rw [digs_len] at sl ll
    have ne : (!(((lead (digs p q.2 J) : Nat) : Int) + ((strip (digs p q.2 J)).length : Nat) == (J : Int))) = false := by
      rw [show ((lead (digs p q.2 J) : Nat) : Int) + ((strip (digs p q.2 J)).length : Nat) = (J : Int) by omega]; simp
    have lt : decide (((lead (digs p q.2 J) : Nat) : Int) < 0) = false := decide_eq_false (by omega)
    rw [← ih, List.map_cons, forL_cons, gN_eq, onR_some]
    simp only [List.set_cons_succ, List.set_cons_zero]
    refine foN ?_
    generalize ((lead (digs p q.2 J) : Nat) : Int) = le at *
    generalize (((strip (digs p q.2 J)).length : Nat) : Int) = sle at *
    generalize PV.tup ((strip (digs p q.2 J)).map PV.int) = T at *
    generalize rootV p J q = V at *
    refine sqK (by simp only [tOr_eq, tNt_eq, tB1_eq, e2_eq, eD_eq, aCons_eq, aNil_eq, eVs, eV0, eVos, eVo0, eC_eq, bind1, il, r1, r2, ln, addP_ii, neP_ii, ne, ltP_ii, lt, asB_eq, Bool.not_true, if_neg Bool.false_ne_true]) ?_
    rw [bNil_eq]
structure Gd (p : Int) (as : List Int) : Prop where
  poly : PolyI as
  near : ∀ a ∈ as, a.natAbs < p.natAbs ^ 90
  sz : ∀ a ∈ as, a.natAbs < 2 ^ 300
theorem tail {p : Int} (hp : p ∈ primesL) {as : List Int} (G : Gd p as) (w : Int) (S C3 : PV) :
    ((bSeq (sSet 5 (e2 ixP (eD lstP (aCons (eC (.int 100)) (aCons (eC (.int 400)) aNil))) (eD intP1 (aCons (e2 eqP (e2 modP (e2 fdivP (eVo 1) (eC (.int 8))) (eC (.int 8))) (eC (.int 5))) aNil)))) (bSeq (sSetO 6 (eD lstP aNil)) (bSeq (sFor (iS (eD F_tree_of (aCons (eV 2) (aCons (eV 4) (aCons (e2 addP (eC (.int 1)) (e2 modP (e2 fdivP (eVo 1) (eC (.int 64))) (eC (.int 4)))) aNil))))) (gT (gsCons (gN 7) (gsCons (gN 8) (gsCons (gN 9) gsNil)))) (bSeq (sIf (tB1 (e2 eqP (eVo 8) (eC (.str "one")))) (bSeq (sMut 6 appP (eD F_root_of (aCons (eV 2) (aCons (eV 4) (aCons (eV 7) (aCons (eV 5) aNil)))))) bNil) bNil) bNil)) (sFrz 6 (bSeq (sFor (iS (eV 6)) (gN 10) (bSeq (sIf (tOr' (tNt (tB1 (eD F__law_is_left (aCons (eV 10) (aCons (eV 2) aNil))))) (tOr' (tB1 (e2 neP (e2 addP (e2 ixP (eVo 10) (eC (.int 1))) (eD lenP (aCons (e2 ixP (eVo 10) (eC (.int 2))) aNil))) (eVo 5))) (tB1 (e2 ltP (e2 ixP (eVo 10) (eC (.int 1))) (eC (.int 0)))))) (bSeq (sRet (eC (.bl false))) bNil) bNil) bNil)) (bSeq (sTo (gT (gsCons (gN 11) (gsCons (gN 12) gsNil))) (eD F_sizes_of (aCons (eV 2) (aCons (eV 4) aNil)))) (sFrz 6 (bSeq (sSet 13 (eLc [10] (iS (eV 6)) (gN 10) (tB1 (e2 neP (e2 ixP (eVo 10) (eC (.int 2))) (eD tupP aNil))) (eV 10))) (bSeq (sIf (tB1 (e2 gtP (e2 subP (eD lenP (aCons (eVo 6) aNil)) (eD lenP (aCons (eVo 13) aNil))) (eD minP (aCons (eC (.int 1)) (aCons (eVo 11) aNil))))) (bSeq (sRet (eC (.bl false))) bNil) bNil) (bSeq (sRet (eD F__law_within (aCons (eV 13) (aCons (eV 12) aNil)))) bNil)))))))))) [.val S, .val (.int w), .val (.int p), .val C3, .val (.lst (as.map PV.int)), .un, .un, .un, .un, .un, .un, .un, .un, .un]).res = .ok (.bl true) := by
  have hp2 := primesL_le p hp
  obtain ⟨h2, h9, _⟩ := id G.poly
  have nz := G.poly.nz
  have hb := G.sz
  have hz : cf as 0 ≠ 0 → ¬ p ^ 100 ∣ cf as 0 := no_big hp2.1 (by
    have m := (cf_mem (as := as) (k := 0) (by omega)).1
    exact Nat.lt_of_lt_of_le (G.near _ m) (Nat.pow_le_pow_right (by omega) (by omega)))
  obtain ⟨N, l, T⟩ := told_any hp G.poly fun a ha => Nat.lt_of_lt_of_le (hb a ha) (Nat.pow_le_pow_right (by omega) (by omega))
  have d8 := fdivP_sm (a := w) (b := 8) (by omega) (by omega)
  have m8 := modP_pos (a := w / 8) (b := 8) (by omega)
  have d64 := fdivP_sm (a := w) (b := 64) (by omega) (by omega)
  have m4 := modP_pos (a := w / 64) (b := 4) (by omega)
  obtain ⟨n, hn⟩ : ∃ n : Nat, 1 + w / 64 % 4 = n := ⟨(1 + w / 64 % 4).toNat, by omega⟩
  have n4 : 1 ≤ n ∧ n ≤ 4 := by omega
  have few := tree_few hp nz h9 (d := n) (by omega)
  have ft := f_tree_of (m := 300) (d := n) hp nz h2 h9 hb (by omega) (by omega) (by omega) few
  obtain ⟨J, hJ, fJ⟩ : ∃ J : Nat, (100 ≤ J ∧ J ≤ 400) ∧ ((intP1 [.bl (w / 8 % 8 == 5)]).bind fun z => ixP (.lst [.int 100, .int 400]) z) = .ok (.int (J : Int)) := by
    cases (w / 8 % 8 == 5) with
    | true => exact ⟨400, by omega, rfl⟩
    | false => exact ⟨100, by omega, rfl⟩
  have l2 : lstP [.int 100, .int 400] = .ok (.lst [.int 100, .int 400]) := rfl
  have l0 : lstP [] = .ok (.lst []) := rfl
  obtain ⟨ls, s7, s8, s9, fr, im, iR'⟩ := rows_loop hp (n := n) (J := J) nz h2 h9 hb (by omega) (by omega) hJ.2 S (.int w) C3 .un .un .un .un (tree p as n) [] .un .un .un (by simpa using few) (fun r hr => hr)
  rw [List.nil_append] at fr
  have par := tree_par (p := p) hp2.1 (cs := as) (d := n) n4.1
  have lsl : ls.length ≤ 900000 := by
    have e := congrArg List.length im
    rw [List.length_map] at e
    have := List.length_filter_le (fun r : PM.Row => r.word == wOne) (tree p as n)
    omega
  have pw : ls.Pairwise fun a b => Apt a.1.stem b.1.stem := by
    have : (ls.map (·.1)).Pairwise fun a b => Apt a.stem b.stem := by rw [im]; exact par.apt.filter _
    exact (List.pairwise_map (f := fun q : PM.Row × Int => q.1)).mp this
  have hk : ∀ q ∈ ls, ∃ k : Nat, q.1.num = k := fun q hq => by
    obtain ⟨s, d, Ro⟩ := tree_row (iR' q hq).1
    have := row_num (by omega) (by omega) nz h9 hb (by omega) Ro
    exact ⟨q.1.num.toNat, by omega⟩
  have zero := rt_zero hp (n := n) (by omega) hJ.1 hz iR' pw hk
  have told := rt_told hp nz h9 hb (n := n) (by omega) (J := J) (by omega) hJ.2 T iR' pw
  have N0 : 0 ≤ N ∧ (cf as 0 = 0 → 1 ≤ N) := by
    have a : 0 ≤ N := by
      apply Classical.byContradiction
      intro z
      exact T.low.1 (cf_out (by omega))
    refine ⟨a, fun z => ?_⟩
    apply Classical.byContradiction
    intro y
    have : N = 0 := by omega
    exact T.low.1 (by rw [this]; exact z)
  obtain ⟨s10, fc, n10⟩ := check_loop hp hJ.2 S (.int w) C3 (.lst (as.map PV.int)) (.lst (ls.map (rootV p J))) s7 s8 s9 .un .un .un ls .un (.inl rfl)
  have te := T.eq
  have ln6 : lenP [.lst (ls.map (rootV p J))] = .ok (.int ls.length) := by simp
  obtain ⟨ks, hks⟩ : ∃ ks, ks = ls.filter fun q => decide (q.2 ≠ 0) := ⟨_, rfl⟩
  have ln13 : lenP [.lst (ks.map (rootV p J))] = .ok (.int ks.length) := by simp
  have cnt : ls.length = ks.length + (ls.filter fun q => decide (q.2 = 0)).length := by
    rw [hks]
    clear hks ln13 fc ln6 lsl fr im iR' pw hk zero told
    induction ls with
    | nil => rfl
    | cons q ls ih =>
      by_cases z : q.2 = 0
      · rw [List.filter_cons_of_neg (by simpa using z), List.filter_cons_of_pos (by simpa using z), List.length_cons, List.length_cons, ih]; omega
      · rw [List.filter_cons_of_pos (by simpa using z), List.filter_cons_of_neg (by simpa using z), List.length_cons, List.length_cons, ih]; omega
  have mn := minP_ok 1 N
  have gt : decide (min 1 N < ((ls.length : Int) - ks.length)) = false := decide_eq_false (by
    by_cases c0 : cf as 0 = 0
    · have := N0.2 c0
      omega
    · have := zero.2 c0
      omega)
  have hx : ∀ q ∈ ls, 0 ≤ q.2 ∧ q.2 < p ^ J := fun q hq => ⟨(iR' q hq).2.2.lo, (iR' q hq).2.2.hi⟩
  have bare : ∀ q ∈ ls, neP (.tup ((strip (digs p q.2 J)).map PV.int)) (.tup []) = .ok (.bl (decide (q.2 ≠ 0))) := fun q hq => by
    by_cases z : q.2 = 0
    · have := (digs_zero hp2.1 J q.2 (by rw [z]; simp)).2
      rw [this, decide_eq_false (fun y => y z)]
      rfl
    · have := (least_vp hp (hx q hq).1 (hx q hq).2 z).2.1
      rw [decide_eq_true z]
      obtain ⟨d, r, hd⟩ : ∃ d r, strip (digs p q.2 J) = d :: r := by
        cases hs : strip (digs p q.2 J) with
        | nil => exact absurd hs this
        | cons d r => exact ⟨d, r, rfl⟩
      rw [hd, neP_ok (by simp) (by simp)]
      simp
  have wi := f_within (rootV p J) (fun q : PM.Row × Int => vp p q.2) (ks := ks) (L := l) T.nd (by have := T.len; omega) (by rw [hks]; exact Nat.le_trans (List.length_filter_le _ _) lsl) (fun q hq => by
    rw [hks] at hq
    obtain ⟨a, b⟩ := List.mem_filter.mp hq
    have b := of_decide_eq_true b
    rw [(root_at q).1, (least_vp hp (hx q a).1 (hx q a).2 b).1]) (fun e => by
    have h := told e
    rw [hks, List.filter_filter]
    refine Int.le_trans (Int.le_of_eq ?_) h
    refine congrArg (fun l : List (PM.Row × Int) => (l.length : Int)) (List.filter_congr fun q _ => ?_)
    rw [Bool.decide_and, Bool.and_comm])
  have r6 : ∀ q : PM.Row × Int, ixP (rootV p J q) (.int 2) = .ok (.tup ((strip (digs p q.2 J)).map PV.int)) := fun q => (root_at q).2
  have LC := eLc_ok (vs := [10]) (it := iS (eV 6)) (tgt := gN 10) (test := tB1 (e2 neP (e2 ixP (eVo 10) (eC (.int 2))) (eD tupP aNil))) (elt := eV 10) (ρ := [.val S, .val (.int w), .val (.int p), .val C3, .val (.lst (as.map PV.int)), .val (.int (J : Int)), .val (.lst (ls.map (rootV p J))), s7, s8, s9, s10, .val (.int N), .val (.lst (l.map pcD)), .un]) (items := ls.map (rootV p J)) (qs := ks.map (rootV p J)) (by
    rcases n10 with rfl | ⟨v, rfl⟩ <;> rfl) (by simp only [iS_eq, eVs, eV0, bind1, asS_l]) (by rw [List.length_map]; omega) (by
    rw [hks]
    refine lc_rowsF (rootV p J) (rootV p J) (fun q : PM.Row × Int => decide (q.2 ≠ 0)) ls fun q hq => ?_
    have b := bare q hq
    have r := r6 q
    refine ⟨[.val S, .val (.int w), .val (.int p), .val C3, .val (.lst (as.map PV.int)), .val (.int (J : Int)), .val (.lst (ls.map (rootV p J))), s7, s8, s9, .val (rootV p J q), .val (.int N), .val (.lst (l.map pcD)), .un], rfl, ?_, fun _ => by simp only [eVs, eV0]⟩
    have t0 : tupP [] = .ok (.tup []) := rfl
    simp only [tB1_eq, e2_eq, eD_eq, aNil_eq, eVos, eVo0, eC_eq, bind1, r, t0, b, asB_eq])
  generalize ks.map (rootV p J) = KS at *
  generalize ls.map (rootV p J) = RS at *
  obtain ⟨TR, hTR⟩ : ∃ TR, TR = (tree p as n).map rowV := ⟨_, rfl⟩
  rw [← hTR] at ft fr
  generalize PV.lst (as.map PV.int) = A at *
  obtain ⟨PC, hPC⟩ : ∃ PC, PC = PV.lst (l.map pcD) := ⟨_, rfl⟩
  rw [← hPC] at te LC wi
  refine stp (.int J) (by
    have f := fJ
    simp only [e2_eq, eD_eq, aCons_eq, aNil_eq, eVos, eVo0, eC_eq, bind1, d8, m8, l2, eqP_ii]
    exact f) ?_
  simp only [List.set_cons_succ, List.set_cons_zero]
  refine stpN (ρ' := [.val S, .val (.int w), .val (.int p), .val C3, .val A, .val (.int J), .own [], .un, .un, .un, .un, .un, .un, .un]) (by
    simp only [sSetO_eq, eD_eq, aNil_eq, bind1, l0, st_ok, asL_l, own_ok, List.set_cons_succ, List.set_cons_zero]) ?_
  refine stpFor TR _ (by simp only [iS_eq, e2_eq, eD_eq, aCons_eq, aNil_eq, eVs, eV0, eVos, eVo0, eC_eq, bind1, d64, m4, addP_ii, hn, ft, asS_l]) fr ?_
  rw [sFrz_eq]
  show (bSeq _ _ [.val S, .val (.int w), .val (.int p), .val C3, .val A, .val (.int J), .val (.lst RS), s7, s8, s9, .un, .un, .un, .un]).res = _
  refine stpFor RS _ (by simp only [iS_eq, eVs, eV0, bind1, asS_l]) fc ?_
  refine stpN (ρ' := [.val S, .val (.int w), .val (.int p), .val C3, .val A, .val (.int J), .val (.lst RS), s7, s8, s9, s10, .val (.int N), .val PC, .un]) (by
    simp only [sTo_eq, eD_eq, aCons_eq, aNil_eq, eVs, eV0, bind1, te, st_ok]; rfl) ?_
  rw [sFrz_eq]
  show (bSeq _ _ [.val S, .val (.int w), .val (.int p), .val C3, .val A, .val (.int J), .val (.lst RS), s7, s8, s9, s10, .val (.int N), .val PC, .un]).res = _
  refine stp (.lst KS) LC ?_
  simp only [List.set_cons_succ, List.set_cons_zero]
  refine skp (by simp only [tB1_eq, e2_eq, eD_eq, aCons_eq, aNil_eq, eVs, eV0, eVos, eVo0, eC_eq, bind1, ln6, ln13, subP_ii, mn, gtP_ii, gt, asB_eq]) ?_
  simp only [bSeq_eq, sRet_eq, eD_eq, aCons_eq, aNil_eq, eVs, eV0, bind1, wi, st_ok, then_ret, res_ret]
theorem small_le : ∀ i : Int, 0 ≤ i → i < 5 → nth [2, 3, 5, 7, 11] i ∈ primesL := fun i h0 h5 => by
  have : nth [2, 3, 5, 7, 11] i ∈ ([2, 3, 5, 7, 11] : List Int) := nth_mem h0 (by simpa using h5)
  simp only [List.mem_cons, List.not_mem_nil, or_false] at this
  rcases this with h | h | h | h | h <;> rw [h] <;> decide
theorem cells_of {ns : List Int} (hn : ns.length ≤ 63) (hb : ∀ z ∈ ns, z.natAbs.log2 < 1048577) (a j : Int) (ex : List Int) (hx : ∀ c ∈ ex, c.natAbs.log2 < 1048577) (hx2 : ex.length ≤ 4) (m : Nat) (hm : ex.length ≤ m) : ∃ cs : List Int, (slP (.frz (ns.map PV.int)) (some a) (some j)).bind (fun x => (addP x (.lst (ex.map PV.int))).bind fun y => slP y none (some (m : Int))) = .ok (.lst (cs.map PV.int)) ∧ ex.length ≤ cs.length ∧ cs.length ≤ m ∧ ∀ c ∈ cs, c.natAbs.log2 < 1048577 := by
  obtain ⟨ms, hms⟩ : ∃ ms, ms = cutG ns (some a) (some j) := ⟨_, rfl⟩
  have ml : ms.length ≤ 63 := by rw [hms]; exact Nat.le_trans (cut_len _ _ _) hn
  have ap : addP (.lst (ms.map PV.int)) (.lst (ex.map PV.int)) = .ok (.lst ((ms ++ ex).map PV.int)) := by rw [addP_ok (by simp; omega), List.map_append]
  refine ⟨(ms ++ ex).take m, ?_, by rw [List.length_take, List.length_append]; omega, by rw [List.length_take]; omega, fun c hc => ?_⟩
  · rw [slP_f, R.bind_ok, cut_map, ← hms, ap, R.bind_ok, slP_l, cut_map, cut_take _ _ (by omega), Int.toNat_natCast]
  · have h := List.mem_of_mem_take hc
    rcases List.mem_append.mp h with h | h
    · rw [hms] at h
      exact hb c (cut_mem _ _ _ c h)
    · exact hx c h
theorem gd_of {p : Int} (hp : 2 ≤ p ∧ p ≤ 97) {as : List Int} (P : PolyI as) {B : Nat} (hb : ∀ a ∈ as, a.natAbs < p.natAbs ^ 40 ∨ a.natAbs < 2 ^ 90) : Gd p as := by
  have pn2 : 2 ≤ p.natAbs := by omega
  refine ⟨P, fun a ha => ?_, fun a ha => ?_⟩
  · rcases hb a ha with h | h
    · exact Nat.lt_of_lt_of_le h (Nat.pow_le_pow_right (by omega) (by omega))
    · exact Nat.lt_of_lt_of_le h (Nat.pow_le_pow_left pn2 90)
  · rcases hb a ha with h | h
    · have h2 : p.natAbs ^ 40 ≤ 97 ^ 40 := Nat.pow_le_pow_left (by omega) 40
      have h4 : (97 : Nat) ^ 40 < 2 ^ 300 := by decide
      omega
    · exact Nat.lt_of_lt_of_le h (Nat.pow_le_pow_right (by omega) (by omega))
theorem law_true : ∀ ns : List Int, ns.length ≤ 63 → (∀ z ∈ ns, z.natAbs.log2 < 1048577) → F_law [.frz (ns.map PV.int)] = .ok (.bl true) := by
  intro ns hlen hbits
  obtain ⟨S, hS⟩ : ∃ S, S = PV.frz (ns.map PV.int) := ⟨_, rfl⟩
  have c0 := f_cell ns 0 (by omega)
  have c1 := f_cell ns 1 (by omega)
  have c2 := f_cell ns 2 (by omega)
  have c3 := f_cell ns 3 (by omega)
  obtain ⟨w, hw⟩ : ∃ w, w = nth ns 1 := ⟨_, rfl⟩
  rw [← hw] at c1
  have m5 := modP_pos (a := nth ns 0) (b := 5) (by omega)
  have lp5 : lstP [.int 2, .int 3, .int 5, .int 7, .int 11] = .ok (.lst (([2, 3, 5, 7, 11] : List Int).map PV.int)) := rfl
  have ip5 : ixP (.lst (([2, 3, 5, 7, 11] : List Int).map PV.int)) (.int (nth ns 0 % 5)) = .ok (.int (nth [2, 3, 5, 7, 11] (nth ns 0 % 5))) := ixP_ints (by omega) (by simp only [List.length_cons, List.length_nil]; omega)
  have p0 := small_le (nth ns 0 % 5) (by omega) (by omega)
  obtain ⟨q, hq⟩ : ∃ q, q = nth [2, 3, 5, 7, 11] (nth ns 0 % 5) := ⟨_, rfl⟩
  rw [← hq] at ip5 p0
  have fpr := f_prime (nth ns 0)
  have w4 := modP_pos (a := w) (b := 4) (by omega)
  have wd4 := fdivP_sm (a := w) (b := 4) (by omega) (by omega)
  have w42 := modP_pos (a := w / 4) (b := 2) (by omega)
  have wd256 := fdivP_sm (a := w) (b := 256) (by omega) (by omega)
  have w256 := modP_pos (a := w / 256) (b := 2) (by omega)
  obtain ⟨cs, fcs, cs2, cs7, csb⟩ := cells_of hlen hbits 3 9 [3, 10] (by decide) (by decide) 7 (by decide)
  obtain ⟨ds, fds, ds1, ds4, dsb⟩ := cells_of hlen hbits 3 7 [3] (by decide) (by decide) 4 (by decide)
  have e310 : lstP [.int 3, .int 10] = .ok (.lst (([3, 10] : List Int).map PV.int)) := rfl
  have e3 : lstP [.int 3] = .ok (.lst (([3] : List Int).map PV.int)) := rfl
  have cs2 : 2 ≤ cs.length := cs2
  have ds1 : 1 ≤ ds.length := ds1
  rw [← hS] at c0 c1 c2 c3 fcs fds
  refine (runF_eq (n := 14) (u := D_law)).trans ?_
  rw [← hS]
  show (D_law [.val S, .un, .un, .un, .un, .un, .un, .un, .un, .un, .un, .un, .un, .un]).res = _
  unfold D_law
  refine stp (.int w) (by simp only [eD_eq, aCons_eq, aNil_eq, eV0, eC_eq, bind1, c1]) ?_
  simp only [List.set_cons_succ, List.set_cons_zero]
  refine stp (.int q) (by simp only [e2_eq, eD_eq, aCons_eq, aNil_eq, eV0, eC_eq, bind1, lp5, c0, m5, ip5]) ?_
  simp only [List.set_cons_succ, List.set_cons_zero]
  obtain ⟨p, hp, st⟩ : ∃ p, p ∈ primesL ∧ sIf (tB1 (e2 eqP (e2 modP (eVo 1) (eC (.int 4))) (eC (.int 3)))) (bSeq (sSet 2 (eD F__law_prime (aCons (eD F__law_cell_at (aCons (eV 0) (aCons (eC (.int 0)) aNil))) aNil))) bNil) bNil [.val S, .val (.int w), .val (.int q), .un, .un, .un, .un, .un, .un, .un, .un, .un, .un, .un] = .next [.val S, .val (.int w), .val (.int p), .un, .un, .un, .un, .un, .un, .un, .un, .un, .un, .un] := by
    by_cases h : w % 4 = 3
    · have b : (w % 4 == 3) = true := by rw [beq_iff_eq]; exact h
      exact ⟨_, prime_in (nth ns 0), by simp only [sIf_eq, tB1_eq, e2_eq, eD_eq, aCons_eq, aNil_eq, eVos, eVo0, eV0, eC_eq, bind1, w4, eqP_ii, b, asB_eq, stB_ok, if_true, bSeq_eq, sSet_eq, c0, fpr, st_ok, then_next, bNil_eq, List.set_cons_succ, List.set_cons_zero]⟩
    · have b : (w % 4 == 3) = false := by rw [beq_eq_false_iff_ne]; exact h
      exact ⟨q, p0, by simp only [sIf_eq, tB1_eq, e2_eq, eVos, eVo0, eC_eq, bind1, w4, eqP_ii, b, asB_eq, stB_ok, if_neg Bool.false_ne_true, bNil_eq]⟩
  refine stpN st ?_
  have hp2 := primesL_le p hp
  obtain ⟨as, fas, al, ane, ab⟩ := f_polyT p cs hp2 (fun z => by rw [z] at cs2; simp at cs2) (by omega) (fun c hc => by have := csb c hc; omega)
  have G0 : Gd p as := gd_of (B := 0) hp2 ⟨by omega, by omega, ane⟩ fun a ha => .inr (ab a ha)
  have asI3 : ∀ k : Int, asI (.int k) = .ok k := fun _ => rfl
  refine stp (.lst (cs.map PV.int)) (by
    have f := fcs
    simp only [eSl_eq, oSome_eq, oNone_eq, e2_eq, eD_eq, aCons_eq, aNil_eq, eV0, eVo0, eC_eq, bind1, asI_eq, e310]
    cases hsl : slP S (some 3) (some 9) with
    | ok x =>
      rw [hsl, R.bind_ok] at f
      rw [R.bind_ok]
      exact f
    | exc c => rw [hsl] at f; cases f
    | stuck => rw [hsl] at f; cases f) ?_
  simp only [List.set_cons_succ, List.set_cons_zero]
  obtain ⟨C3, hC3⟩ : ∃ C3, C3 = PV.lst (cs.map PV.int) := ⟨_, rfl⟩
  rw [← hC3] at fas ⊢
  refine stp (.lst (as.map PV.int)) (by simp only [eD_eq, aCons_eq, aNil_eq, eVs, eV0, bind1, fas]) ?_
  simp only [List.set_cons_succ, List.set_cons_zero]
  -- planted or not
  obtain ⟨bs, G1, st1⟩ : ∃ bs, Gd p bs ∧ sIf (tB1 (e2 eqP (e2 modP (e2 fdivP (eVo 1) (eC (.int 4))) (eC (.int 2))) (eC (.int 1)))) (bSeq (sSet 4 (eD F__law_planted (aCons (eSl slP (e2 addP (eSl slP (eVo 0) (oSome (eC (.int 3))) (oSome (eC (.int 7)))) (eD lstP (aCons (eC (.int 3)) aNil))) oNone (oSome (eC (.int 4)))) (aCons (eV 2) (aCons (eD F__law_cell_at (aCons (eV 0) (aCons (eC (.int 2)) aNil))) aNil))))) bNil) bNil [.val S, .val (.int w), .val (.int p), .val C3, .val (.lst (as.map PV.int)), .un, .un, .un, .un, .un, .un, .un, .un, .un] = .next [.val S, .val (.int w), .val (.int p), .val C3, .val (.lst (bs.map PV.int)), .un, .un, .un, .un, .un, .un, .un, .un, .un] := by
    by_cases h : w / 4 % 2 = 1
    · have b : (w / 4 % 2 == 1) = true := by rw [beq_iff_eq]; exact h
      obtain ⟨bs, f1, f2, f3, f4⟩ := f_planted hp2 (nth ns 2) ds1 ds4
      refine ⟨bs, gd_of (B := 0) hp2 (f3.poly (by omega) (by omega)) fun a ha => .inl (f4 a ha), ?_⟩
      have sl : eSl slP (e2 addP (eSl slP (eVo 0) (oSome (eC (.int 3))) (oSome (eC (.int 7)))) (eD lstP (aCons (eC (.int 3)) aNil))) oNone (oSome (eC (.int 4))) [.val S, .val (.int w), .val (.int p), .val C3, .val (.lst (as.map PV.int)), .un, .un, .un, .un, .un, .un, .un, .un, .un] = .ok (.lst (ds.map PV.int)) := by
        have f := fds
        simp only [eSl_eq, oSome_eq, oNone_eq, e2_eq, eD_eq, aCons_eq, aNil_eq, eV0, eVo0, eC_eq, bind1, asI_eq, e3]
        cases hsl : slP S (some 3) (some 7) with
        | ok x =>
          rw [hsl, R.bind_ok] at f
          rw [R.bind_ok]
          exact f
        | exc c => rw [hsl] at f; cases f
        | stuck => rw [hsl] at f; cases f
      simp only [sIf_eq, tB1_eq, e2_eq, eVos, eVo0, eC_eq, bind1, wd4, w42, eqP_ii, b, asB_eq, stB_ok, if_true]
      rw [bSeq_eq, sSet_eq]
      simp only [eD_eq, aCons_eq, aNil_eq, sl, eVs, eV0, eC_eq, bind1, c2, f1, st_ok, then_next, bNil_eq, List.set_cons_succ, List.set_cons_zero]
    · have b : (w / 4 % 2 == 1) = false := by rw [beq_eq_false_iff_ne]; exact h
      exact ⟨as, G0, by simp only [sIf_eq, tB1_eq, e2_eq, eVos, eVo0, eC_eq, bind1, wd4, w42, eqP_ii, b, asB_eq, stB_ok, if_neg Bool.false_ne_true, bNil_eq]⟩
  refine stpN st1 ?_
  obtain ⟨es, G2, st2⟩ : ∃ es, Gd p es ∧ sIf (tB1 (e2 eqP (e2 modP (e2 fdivP (eVo 1) (eC (.int 256))) (eC (.int 2))) (eC (.int 1)))) (bSeq (sSet 4 (eD F__law_any_poly (aCons (eD F__law_cell_at (aCons (eV 0) (aCons (eC (.int 3)) aNil))) (aCons (eV 2) (aCons (eC (.int 7)) aNil))))) bNil) bNil [.val S, .val (.int w), .val (.int p), .val C3, .val (.lst (bs.map PV.int)), .un, .un, .un, .un, .un, .un, .un, .un, .un] = .next [.val S, .val (.int w), .val (.int p), .val C3, .val (.lst (es.map PV.int)), .un, .un, .un, .un, .un, .un, .un, .un, .un] := by
    by_cases h : w / 256 % 2 = 1
    · have b : (w / 256 % 2 == 1) = true := by rw [beq_iff_eq]; exact h
      obtain ⟨es, f1, f2, f3, f4, f5⟩ := f_any_poly hp2 (nth_log ns hbits 3) (most := 7) (by omega)
      refine ⟨es, gd_of (B := 0) hp2 ⟨f2, by omega, f4⟩ fun a ha => .inr (by have := f5 a ha; omega), ?_⟩
      simp only [sIf_eq, tB1_eq, e2_eq, eVos, eVo0, eC_eq, bind1, wd256, w256, eqP_ii, b, asB_eq, stB_ok, if_true, bSeq_eq, sSet_eq, eD_eq, aCons_eq, aNil_eq, eVs, eV0, c3, f1, st_ok, then_next, bNil_eq, List.set_cons_succ, List.set_cons_zero]
    · have b : (w / 256 % 2 == 1) = false := by rw [beq_eq_false_iff_ne]; exact h
      exact ⟨bs, G1, by simp only [sIf_eq, tB1_eq, e2_eq, eVos, eVo0, eC_eq, bind1, wd256, w256, eqP_ii, b, asB_eq, stB_ok, if_neg Bool.false_ne_true, bNil_eq]⟩
  refine stpN st2 ?_
  exact tail hp G2 w S C3
end K75
set_option Elab.async false
set_option linter.all false
set_option maxRecDepth 100000
set_option autoImplicit false
set_option maxHeartbeats 0
namespace K75
open PySem PySem.Spec L2 PL PM
open PyProof.Rows hiding St
def topS (i : Nat) : Stmt := PySem.Challenge.pw_leftnumbers_k75_whole_roots_of_the_tree.main.body.getD i (.Pass ⟨0, 0, 0, 0⟩)
abbrev st_is_whole : Stmt := topS 11
theorem sc_is_whole : FnScope ["thing"] ["thing"] (defScope st_is_whole) := ⟨rfl, rfl, rfl, by decide +kernel, rfl, by decide +kernel, by decide +kernel⟩
abbrev st_is_prime : Stmt := topS 12
theorem sc_is_prime : FnScope ["thing", "part"] ["thing"] (defScope st_is_prime) := ⟨rfl, rfl, rfl, by decide +kernel, rfl, by decide +kernel, by decide +kernel⟩
abbrev st_exponent : Stmt := topS 13
theorem sc_exponent : FnScope ["p", "number", "found", "rest", "left"] ["p", "number"] (defScope st_exponent) := ⟨rfl, rfl, rfl, by decide +kernel, rfl, by decide +kernel, by decide +kernel⟩
abbrev st_divisor : Stmt := topS 15
theorem sc_divisor : FnScope ["one", "other"] ["one", "other"] (defScope st_divisor) := ⟨rfl, rfl, rfl, by decide +kernel, rfl, by decide +kernel, by decide +kernel⟩
abbrev st_fraction : Stmt := topS 16
theorem sc_fraction : FnScope ["top", "bottom", "share"] ["top", "bottom"] (defScope st_fraction) := ⟨rfl, rfl, rfl, by decide +kernel, rfl, by decide +kernel, by decide +kernel⟩
abbrev st_is_poly : Stmt := topS 19
theorem sc_is_poly : FnScope ["thing", "number"] ["thing"] (defScope st_is_poly) := ⟨rfl, rfl, rfl, by decide +kernel, rfl, by decide +kernel, by decide +kernel⟩
abbrev st_want_poly : Stmt := topS 20
theorem sc_want_poly : FnScope ["thing"] ["thing"] (defScope st_want_poly) := ⟨rfl, rfl, rfl, by decide +kernel, rfl, by decide +kernel, by decide +kernel⟩
abbrev st_whole_worth : Stmt := topS 21
theorem sc_whole_worth : FnScope ["poly", "number", "found", "one"] ["poly", "number"] (defScope st_whole_worth) := ⟨rfl, rfl, rfl, by decide +kernel, rfl, by decide +kernel, by decide +kernel⟩
abbrev st_slope_of : Stmt := topS 22
theorem sc_slope_of : FnScope ["poly", "k", "number"] ["poly"] (defScope st_slope_of) := ⟨rfl, rfl, rfl, by decide +kernel, rfl, by decide +kernel, by decide +kernel⟩
abbrev st_points_of : Stmt := topS 24
theorem sc_points_of : FnScope ["p", "poly", "at", "number"] ["p", "poly"] (defScope st_points_of) := ⟨rfl, rfl, rfl, by decide +kernel, rfl, by decide +kernel, by decide +kernel⟩
abbrev st_is_needless : Stmt := topS 25
theorem sc_is_needless : FnScope ["first", "middle", "last"] ["first", "middle", "last"] (defScope st_is_needless) := ⟨rfl, rfl, rfl, by decide +kernel, rfl, by decide +kernel, by decide +kernel⟩
abbrev st_corners_of : Stmt := topS 26
theorem sc_corners_of : FnScope ["p", "poly", "bends", "point"] ["p", "poly"] (defScope st_corners_of) := ⟨rfl, rfl, rfl, by decide +kernel, rfl, by decide +kernel, by decide +kernel⟩
abbrev st_sizes_of : Stmt := topS 28
theorem sc_sizes_of : FnScope ["p", "poly", "bends", "pieces", "at", "left", "high", "right", "low"] ["p", "poly"] (defScope st_sizes_of) := ⟨rfl, rfl, rfl, by decide +kernel, rfl, by decide +kernel, by decide +kernel⟩
abbrev st_are_figures : Stmt := topS 30
theorem sc_are_figures : FnScope ["p", "figures", "one"] ["p", "figures"] (defScope st_are_figures) := ⟨rfl, rfl, rfl, by decide +kernel, rfl, by decide +kernel, by decide +kernel⟩
abbrev st_left_number : Stmt := topS 31
theorem sc_left_number : FnScope ["p", "least", "figures", "noughts"] ["p", "least", "figures"] (defScope st_left_number) := ⟨rfl, rfl, rfl, by decide +kernel, rfl, by decide +kernel, by decide +kernel⟩
abbrev st_of_whole : Stmt := topS 32
theorem sc_of_whole : FnScope ["p", "least", "number", "many", "figures", "k", "digit"] ["p", "least", "number", "many"] (defScope st_of_whole) := ⟨rfl, rfl, rfl, by decide +kernel, rfl, by decide +kernel, by decide +kernel⟩
abbrev st_is_stem : Stmt := topS 35
theorem sc_is_stem : FnScope ["p", "thing", "digit"] ["p", "thing"] (defScope st_is_stem) := ⟨rfl, rfl, rfl, by decide +kernel, rfl, by decide +kernel, by decide +kernel⟩
abbrev st_shifted : Stmt := topS 36
theorem sc_shifted : FnScope ["poly", "number", "found", "first", "k"] ["poly", "number"] (defScope st_shifted) := ⟨rfl, rfl, rfl, by decide +kernel, rfl, by decide +kernel, by decide +kernel⟩
abbrev st_lifted : Stmt := topS 37
theorem sc_lifted : FnScope ["p", "poly", "lift", "found", "k", "number"] ["p", "poly"] (defScope st_lifted) := ⟨rfl, rfl, rfl, by decide +kernel, rfl, by decide +kernel, by decide +kernel⟩
abbrev st_one_on : Stmt := topS 38
theorem sc_one_on : FnScope ["p", "poly", "digit", "by", "found", "number"] ["p", "poly", "digit"] (defScope st_one_on) := ⟨rfl, rfl, rfl, by decide +kernel, rfl, by decide +kernel, by decide +kernel⟩
abbrev st_seen_from : Stmt := topS 39
theorem sc_seen_from : FnScope ["p", "poly", "stem", "lift", "seen", "digit", "more"] ["p", "poly", "stem"] (defScope st_seen_from) := ⟨rfl, rfl, rfl, by decide +kernel, rfl, by decide +kernel, by decide +kernel⟩
abbrev st_word_of : Stmt := topS 43
theorem sc_word_of : FnScope ["p", "seen", "digit"] ["p", "seen", "digit"] (defScope st_word_of) := ⟨rfl, rfl, rfl, by decide +kernel, rfl, by decide +kernel, by decide +kernel⟩
abbrev st_grown : Stmt := topS 44
theorem sc_grown : FnScope ["p", "stem", "depth", "seen", "lift", "found", "digit", "longer", "word", "more", "beyond"] ["p", "stem", "depth", "seen", "lift"] (defScope st_grown) := ⟨rfl, rfl, rfl, by decide +kernel, rfl, by decide +kernel, by decide +kernel⟩
abbrev st_tree_of : Stmt := topS 45
theorem sc_tree_of : FnScope ["p", "poly", "depth", "lift", "seen"] ["p", "poly", "depth"] (defScope st_tree_of) := ⟨rfl, rfl, rfl, by decide +kernel, rfl, by decide +kernel, by decide +kernel⟩
abbrev st_rise_of : Stmt := topS 46
theorem sc_rise_of : FnScope ["p", "poly", "stem", "lift", "seen", "digit", "more"] ["p", "poly", "stem"] (defScope st_rise_of) := ⟨rfl, rfl, rfl, by decide +kernel, rfl, by decide +kernel, by decide +kernel⟩
abbrev st_undone : Stmt := topS 47
theorem sc_undone : FnScope ["p", "number", "digit"] ["p", "number"] (defScope st_undone) := ⟨rfl, rfl, rfl, by decide +kernel, rfl, by decide +kernel, by decide +kernel⟩
abbrev st_root_of : Stmt := topS 48
theorem sc_root_of : FnScope ["p", "poly", "stem", "place", "rise", "root", "by", "digit", "low", "k", "turn"] ["p", "poly", "stem", "place"] (defScope st_root_of) := ⟨rfl, rfl, rfl, by decide +kernel, rfl, by decide +kernel, by decide +kernel⟩
abbrev st__law_cell_at : Stmt := topS 50
theorem sc__law_cell_at : FnScope ["_law_script", "_law_k"] ["_law_script", "_law_k"] (defScope st__law_cell_at) := ⟨rfl, rfl, rfl, by decide +kernel, rfl, by decide +kernel, by decide +kernel⟩
abbrev st__law_prime : Stmt := topS 51
theorem sc__law_prime : FnScope ["_law_cell", "_law_some"] ["_law_cell"] (defScope st__law_prime) := ⟨rfl, rfl, rfl, by decide +kernel, rfl, by decide +kernel, by decide +kernel⟩
abbrev st__law_poly : Stmt := topS 52
theorem sc__law_poly : FnScope ["_law_cells", "_law_p", "_law_poly_here", "_law_k", "_law_number", "_law_turn"] ["_law_cells", "_law_p"] (defScope st__law_poly) := ⟨rfl, rfl, rfl, by decide +kernel, rfl, by decide +kernel, by decide +kernel⟩
abbrev st__law_whole : Stmt := topS 53
theorem sc__law_whole : FnScope ["_law_got"] ["_law_got"] (defScope st__law_whole) := ⟨rfl, rfl, rfl, by decide +kernel, rfl, by decide +kernel, by decide +kernel⟩
abbrev st__law_is_left : Stmt := topS 54
theorem sc__law_is_left : FnScope ["_law_got", "_law_p", "_law_part", "_law_digit"] ["_law_got", "_law_p"] (defScope st__law_is_left) := ⟨rfl, rfl, rfl, by decide +kernel, rfl, by decide +kernel, by decide +kernel⟩
abbrev st__law_planted : Stmt := topS 55
theorem sc__law_planted : FnScope ["_law_cells", "_law_p", "_law_more", "_law_poly_here", "_law_cell", "_law_root", "_law_turn", "_law_made", "_law_k"] ["_law_cells", "_law_p", "_law_more"] (defScope st__law_planted) := ⟨rfl, rfl, rfl, by decide +kernel, rfl, by decide +kernel, by decide +kernel⟩
abbrev st__law_within : Stmt := topS 56
theorem sc__law_within : FnScope ["_law_kept", "_law_pieces", "_law_counted", "_law_part", "_law_many", "_law_one", "_law_left"] ["_law_kept", "_law_pieces"] (defScope st__law_within) := ⟨rfl, rfl, rfl, by decide +kernel, rfl, by decide +kernel, by decide +kernel⟩
abbrev st__law_box : Stmt := topS 57
theorem sc__law_box : FnScope ["_law_cell", "_law_number"] ["_law_cell"] (defScope st__law_box) := ⟨rfl, rfl, rfl, by decide +kernel, rfl, by decide +kernel, by decide +kernel⟩
abbrev st__law_take : Stmt := topS 58
theorem sc__law_take : FnScope ["_law_box_here", "_law_many", "_law_digit"] ["_law_box_here", "_law_many"] (defScope st__law_take) := ⟨rfl, rfl, rfl, by decide +kernel, rfl, by decide +kernel, by decide +kernel⟩
abbrev st__law_any_number : Stmt := topS 59
theorem sc__law_any_number : FnScope ["_law_box_here", "_law_p", "_law_way", "_law_number", "_law_turn"] ["_law_box_here", "_law_p"] (defScope st__law_any_number) := ⟨rfl, rfl, rfl, by decide +kernel, rfl, by decide +kernel, by decide +kernel⟩
abbrev st__law_any_poly : Stmt := topS 60
theorem sc__law_any_poly : FnScope ["_law_cell", "_law_p", "_law_most", "_law_box_here", "_law_poly_here", "_law_k"] ["_law_cell", "_law_p", "_law_most"] (defScope st__law_any_poly) := ⟨rfl, rfl, rfl, by decide +kernel, rfl, by decide +kernel, by decide +kernel⟩
abbrev st_law : Stmt := topS 61
theorem sc_law : FnScope ["_law_script", "_law_way", "_law_p", "_law_cells", "_law_poly_here", "_law_last", "_law_roots", "_law_stem", "_law_word", "_law_number", "_law_one", "_law_noughts", "_law_pieces", "_law_kept"] ["_law_script"] (defScope st_law) := ⟨rfl, rfl, rfl, by decide +kernel, rfl, by decide +kernel, by decide +kernel⟩
structure Tx (K : PySem.W.Frag) (mg : Str → Option Value) : Prop where
  d_is_whole : DefE K mg "is_whole" st_is_whole ["thing"]
  d_is_prime : DefE K mg "is_prime" st_is_prime ["thing"]
  d_exponent : DefE K mg "exponent" st_exponent ["p", "number"]
  d_divisor : DefE K mg "divisor" st_divisor ["one", "other"]
  d_fraction : DefED K mg "fraction" st_fraction ["top", "bottom"]
  d_is_poly : DefE K mg "is_poly" st_is_poly ["thing"]
  d_want_poly : DefE K mg "want_poly" st_want_poly ["thing"]
  d_whole_worth : DefE K mg "whole_worth" st_whole_worth ["poly", "number"]
  d_slope_of : DefE K mg "slope_of" st_slope_of ["poly"]
  d_points_of : DefE K mg "points_of" st_points_of ["p", "poly"]
  d_is_needless : DefE K mg "is_needless" st_is_needless ["first", "middle", "last"]
  d_corners_of : DefE K mg "corners_of" st_corners_of ["p", "poly"]
  d_sizes_of : DefE K mg "sizes_of" st_sizes_of ["p", "poly"]
  d_are_figures : DefE K mg "are_figures" st_are_figures ["p", "figures"]
  d_left_number : DefE K mg "left_number" st_left_number ["p", "least", "figures"]
  d_of_whole : DefE K mg "of_whole" st_of_whole ["p", "least", "number", "many"]
  d_is_stem : DefE K mg "is_stem" st_is_stem ["p", "thing"]
  d_shifted : DefE K mg "shifted" st_shifted ["poly", "number"]
  d_lifted : DefE K mg "lifted" st_lifted ["p", "poly"]
  d_one_on : DefE K mg "one_on" st_one_on ["p", "poly", "digit"]
  d_seen_from : DefE K mg "seen_from" st_seen_from ["p", "poly", "stem"]
  d_word_of : DefE K mg "word_of" st_word_of ["p", "seen", "digit"]
  d_grown : DefE K mg "grown" st_grown ["p", "stem", "depth", "seen", "lift"]
  d_tree_of : DefE K mg "tree_of" st_tree_of ["p", "poly", "depth"]
  d_rise_of : DefE K mg "rise_of" st_rise_of ["p", "poly", "stem"]
  d_undone : DefE K mg "undone" st_undone ["p", "number"]
  d_root_of : DefE K mg "root_of" st_root_of ["p", "poly", "stem", "place"]
  d__law_cell_at : DefE K mg "_law_cell_at" st__law_cell_at ["_law_script", "_law_k"]
  d__law_prime : DefE K mg "_law_prime" st__law_prime ["_law_cell"]
  d__law_poly : DefE K mg "_law_poly" st__law_poly ["_law_cells", "_law_p"]
  d__law_whole : DefE K mg "_law_whole" st__law_whole ["_law_got"]
  d__law_is_left : DefE K mg "_law_is_left" st__law_is_left ["_law_got", "_law_p"]
  d__law_planted : DefE K mg "_law_planted" st__law_planted ["_law_cells", "_law_p", "_law_more"]
  d__law_within : DefE K mg "_law_within" st__law_within ["_law_kept", "_law_pieces"]
  d__law_box : DefE K mg "_law_box" st__law_box ["_law_cell"]
  d__law_take : DefE K mg "_law_take" st__law_take ["_law_box_here", "_law_many"]
  d__law_any_number : DefE K mg "_law_any_number" st__law_any_number ["_law_box_here", "_law_p"]
  d__law_any_poly : DefE K mg "_law_any_poly" st__law_any_poly ["_law_cell", "_law_p", "_law_most"]
  n_abs : mg "abs" = none
  n_all : mg "all" = none
  n_bool : mg "bool" = none
  n_divmod : mg "divmod" = none
  n_enumerate : mg "enumerate" = none
  n_int : mg "int" = none
  n_isinstance : mg "isinstance" = none
  n_len : mg "len" = none
  n_list : mg "list" = none
  n_min : mg "min" = none
  n_range : mg "range" = none
  n_reversed : mg "reversed" = none
  n_tuple : mg "tuple" = none
  c_MOST_DEPTH : GlI mg "MOST_DEPTH" 12
  c_MOST_END : GlI mg "MOST_END" 400
  c_MOST_FIGURES : GlI mg "MOST_FIGURES" 12
  c_MOST_NUMBERS : GlI mg "MOST_NUMBERS" 9
  c_MOST_PRIME : GlI mg "MOST_PRIME" 97
  x_NoDepth : ∃ C, ExcT K mg "NoDepth" C
  x_NoFigures : ∃ C, ExcT K mg "NoFigures" C
  x_NoFraction : ∃ C, ExcT K mg "NoFraction" C
  x_NoPlace : ∃ C, ExcT K mg "NoPlace" C
  x_NoPolynomial : ∃ C, ExcT K mg "NoPolynomial" C
  x_NoPrime : ∃ C, ExcT K mg "NoPrime" C
  x_NoRoot : ∃ C, ExcT K mg "NoRoot" C
section
variable {P : Program} {w : World} {K : PySem.W.Frag} {mg : Str → Option Value} {base : Heap}
theorem bd_is_whole (B : Tx K mg) {f : Addr} {cdv : Value} {A : Around} {outer : List PySem.Env} {s : Shared} {H : Hp} {E : XK} (hr : Room 0 (A.deeper (envOfC "is_whole" (defScope st_is_whole) s.heap.objs.size f cdv))) :
    BJ (cxOf (L2N.CX P w) P w K mg base ["thing"] "is_whole" (defScope st_is_whole) f cdv A outer s H E) (fun cls d _ H => E cls d H) false (defBody st_is_whole) D_is_whole :=
  (b_cons (s_ret (e_and (e_isi (n := "int") B.n_isinstance (by rfl) (e_varT (pv 0)) (pe_bltn (by rfl) B.n_int (by decide +kernel) rfl)) (e_one (e_not (e_isi (n := "bool") B.n_isinstance (by rfl) (e_varT (pv 0)) (pe_bltn (by rfl) B.n_bool (by decide +kernel) rfl))))))
b_nil)
theorem ok_is_whole (B : Tx K mg) : Okd P w K mg base "is_whole" ["thing"] 1 1 false F_is_whole := def_ok B.d_is_whole sc_is_whole rfl (fun z => nomatch z) fun f cdv A outer s H E hr => bd_is_whole B hr
theorem bd_is_prime (B : Tx K mg) {f : Addr} {cdv : Value} {A : Around} {outer : List PySem.Env} {s : Shared} {H : Hp} {E : XK} (hr : Room 1 (A.deeper (envOfC "is_prime" (defScope st_is_prime) s.heap.objs.size f cdv))) :
    BJ (cxOf (L2N.CX P w) P w K mg base ["thing", "part"] "is_prime" (defScope st_is_prime) f cdv A outer s H E) (fun cls d _ H => E cls d H) false (defBody st_is_prime) D_is_prime :=
  (b_cons (s_if (t_w (w_or (t_not (t_val (e_callD (ok_is_whole B) hr (by decide) tk_of (by rfl) (a_cons (e_var (pv 0)) a_nil) (ALen.cons ALen.nil)))) (w_or (t_lt (e_varT (pv 0)) (e_s_t e_int)) (w_or1 (t_gt (e_varT (pv 0)) (e_s_t (e_glI B.c_MOST_PRIME (by rfl))))))))
(b_cons (s_ret e_bl)
b_nil)
b_nil)
(b_cons (s_ret (e_all rfl B.n_all (by rfl) (a_cons (e_f_t (e_lc (own := [("part", 1)]) rfl sc_is_prime.nd (i_rng2 B.n_range (by rfl) (a_cons (e_s_t e_int) (a_cons (e_varT (pv 0)) a_nil))) (blkOk_by (own := [("part", 1)]) (N := ["thing", "part"]) (sc := defScope st_is_prime) (by decide +kernel)) (by decide) (fun _ _ _ _ _ => (g_name (pg_name (i := 1) sc_is_prime.nd rfl (Or.inl rfl)))) (fun _ _ _ _ _ => c_nil) (fun _ _ _ _ _ => (e_ne hr.units (e_s_t (e_mod (e_varT (pv 0)) (e_varT (pv 1)))) (e_s_t e_int))))) a_nil)))
b_nil))
theorem ok_is_prime (B : Tx K mg) : Okd P w K mg base "is_prime" ["thing"] 2 1 false F_is_prime := def_ok B.d_is_prime sc_is_prime rfl (fun z => nomatch z) fun f cdv A outer s H E hr => bd_is_prime B hr
theorem bd_exponent (B : Tx K mg) {f : Addr} {cdv : Value} {A : Around} {outer : List PySem.Env} {s : Shared} {H : Hp} {E : XK} (hr : Room 0 (A.deeper (envOfC "exponent" (defScope st_exponent) s.heap.objs.size f cdv))) :
    BJ (cxOf (L2N.CX P w) P w K mg base ["p", "number", "found", "rest", "left"] "exponent" (defScope st_exponent) f cdv A outer s H E) (fun cls d _ H => E cls d H) false (defBody st_exponent) D_exponent :=
  (b_cons (s_set (i := 2) sc_exponent.nd rfl (Or.inl rfl) e_int)
(b_cons (s_to (e_divmod B.n_divmod (by rfl) (a_cons (e_varT (pv 1)) (a_cons (e_varT (pv 0)) a_nil))) (g_tup rfl (gs_cons (g_name (pg_name (i := 3) sc_exponent.nd rfl (Or.inl rfl))) (gs_cons (g_name (pg_name (i := 4) sc_exponent.nd rfl (Or.inl rfl))) gs_nil)) (gs_len (gs_len gs_len0))))
(b_cons (s_while hp_of (t_eq hr.units (e_varT (pv 4)) (e_s_t e_int))
(b_cons (s_augAdd (i := 2) sc_exponent.nd rfl (Or.inl rfl) (e_s_t e_int))
(b_cons (s_to (e_divmod B.n_divmod (by rfl) (a_cons (e_varT (pv 3)) (a_cons (e_varT (pv 0)) a_nil))) (g_tup rfl (gs_cons (g_name (pg_name (i := 3) sc_exponent.nd rfl (Or.inl rfl))) (gs_cons (g_name (pg_name (i := 4) sc_exponent.nd rfl (Or.inl rfl))) gs_nil)) (gs_len (gs_len gs_len0))))
b_nil)))
(b_cons (s_ret (e_var (pv 2)))
b_nil))))
theorem ok_exponent (B : Tx K mg) : Okd P w K mg base "exponent" ["p", "number"] 1 2 false F_exponent := def_ok B.d_exponent sc_exponent rfl (fun z => nomatch z) fun f cdv A outer s H E hr => bd_exponent B hr
theorem bd_divisor (B : Tx K mg) {f : Addr} {cdv : Value} {A : Around} {outer : List PySem.Env} {s : Shared} {H : Hp} {E : XK} (hr : Room 0 (A.deeper (envOfC "divisor" (defScope st_divisor) s.heap.objs.size f cdv))) :
    BJ (cxOf (L2N.CX P w) P w K mg base ["one", "other"] "divisor" (defScope st_divisor) f cdv A outer s H E) (fun cls d _ H => E cls d H) false (defBody st_divisor) D_divisor :=
  (b_cons (s_set (i := 0) sc_divisor.nd rfl (Or.inl rfl) (e_abs B.n_abs (by rfl) (a_cons (e_varT (pv 0)) a_nil)))
(b_cons (s_set (i := 1) sc_divisor.nd rfl (Or.inl rfl) (e_abs B.n_abs (by rfl) (a_cons (e_varT (pv 1)) a_nil)))
(b_cons (s_while hp_of (t_gt (e_varT (pv 1)) (e_s_t e_int))
(b_cons (s_par (i := 0) (j := 1) rfl sc_divisor.nd rfl rfl (by decide) rfl rfl (a_cons (e_var (pv 1)) (a_cons (e_mod (e_varT (pv 0)) (e_varT (pv 1))) a_nil)) (by rfl))
b_nil))
(b_cons (s_ret (e_var (pv 0)))
b_nil))))
theorem ok_divisor (B : Tx K mg) : Okd P w K mg base "divisor" ["one", "other"] 1 2 false F_divisor := def_ok B.d_divisor sc_divisor rfl (fun z => nomatch z) fun f cdv A outer s H E hr => bd_divisor B hr
theorem bd_fraction (B : Tx K mg) {f : Addr} {cdv : Value} {A : Around} {outer : List PySem.Env} {s : Shared} {H : Hp} {E : XK} (hr : Room 1 (A.deeper (envOfC "fraction" (defScope st_fraction) s.heap.objs.size f cdv))) :
    BJ (cxOf (L2N.CX P w) P w K mg base ["top", "bottom", "share"] "fraction" (defScope st_fraction) f cdv A outer s H E) (fun cls d _ H => E cls d H) false (defBody st_fraction) D_fraction :=
  (b_cons (s_if (t_w (w_or (t_not (t_val (e_callD (ok_is_whole B) hr (by decide) tk_of (by rfl) (a_cons (e_var (pv 0)) a_nil) (ALen.cons ALen.nil)))) (w_or (t_not (t_val (e_callD (ok_is_whole B) hr (by decide) tk_of (by rfl) (a_cons (e_var (pv 1)) a_nil) (ALen.cons ALen.nil)))) (w_or1 (t_eq hr.units (e_varT (pv 1)) (e_s_t e_int))))))
(b_cons (s_raise B.x_NoFraction.choose_spec rfl tk_of (by rfl))
b_nil)
b_nil)
(b_cons (s_set (i := 2) sc_fraction.nd rfl (Or.inl rfl) (e_callD (ok_divisor B) hr (by decide) tk_of (by rfl) (a_cons (e_var (pv 0)) (a_cons (e_var (pv 1)) a_nil)) (ALen.cons (ALen.cons ALen.nil))))
(b_cons (s_if (t_lt (e_varT (pv 1)) (e_s_t e_int))
(b_cons (s_set (i := 2) sc_fraction.nd rfl (Or.inl rfl) (e_neg (e_varT (pv 2))))
b_nil)
b_nil)
(b_cons (s_ret (e_tup (a_cons (e_fdiv (e_varT (pv 0)) (e_varT (pv 2))) (a_cons (e_fdiv (e_varT (pv 1)) (e_varT (pv 2))) a_nil))))
b_nil))))
theorem ok_fraction (B : Tx K mg) : Okd P w K mg base "fraction" ["top", "bottom"] 2 2 false F_fraction ∧ OkD1 P w K mg base "fraction" ["top", "bottom"] 2 2 false F_fraction := def_okD B.d_fraction sc_fraction rfl (fun z => nomatch z) fun f cdv A outer s H E hr => bd_fraction B hr
theorem bd_is_poly (B : Tx K mg) {f : Addr} {cdv : Value} {A : Around} {outer : List PySem.Env} {s : Shared} {H : Hp} {E : XK} (hr : Room 1 (A.deeper (envOfC "is_poly" (defScope st_is_poly) s.heap.objs.size f cdv))) :
    BJ (cxOf (L2N.CX P w) P w K mg base ["thing", "number"] "is_poly" (defScope st_is_poly) f cdv A outer s H E) (fun cls d _ H => E cls d H) false (defBody st_is_poly) D_is_poly :=
  (b_cons (s_if (t_w (w_or (t_not (t_val (e_isi (n := "list") B.n_isinstance (by rfl) (e_varT (pv 0)) (pe_bltn (by rfl) B.n_list (by decide +kernel) rfl)))) (w_or (t_lt (e_s_t (e_len B.n_len (by rfl) (a_cons (e_varT (pv 0)) a_nil))) (e_s_t e_int)) (w_or1 (t_gt (e_s_t (e_len B.n_len (by rfl) (a_cons (e_varT (pv 0)) a_nil))) (e_s_t (e_glI B.c_MOST_NUMBERS (by rfl))))))))
(b_cons (s_ret e_bl)
b_nil)
b_nil)
(b_cons (s_ret (e_and (e_all rfl B.n_all (by rfl) (a_cons (e_f_t (e_lc (own := [("number", 1)]) rfl sc_is_poly.nd (i_seq (e_var (pv 0))) (blkOk_by (own := [("number", 1)]) (N := ["thing", "number"]) (sc := defScope st_is_poly) (by decide +kernel)) (by decide) (fun _ _ _ _ _ => (g_name (pg_name (i := 1) sc_is_poly.nd rfl (Or.inl rfl)))) (fun _ _ _ _ _ => c_nil) (fun _ _ _ _ _ => (e_callD (ok_is_whole B) hr (by decide) takesN (by rfl) (a_cons (e_var (pv 1)) a_nil) (ALen.cons ALen.nil))))) a_nil)) (e_one (e_ne hr.units (e_s_t (e_item (e_varT (pv 0)) (e_s_t (e_neg (e_s_t e_int))) (fun _ _ => rfl))) (e_s_t e_int)))))
b_nil))
theorem ok_is_poly (B : Tx K mg) : Okd P w K mg base "is_poly" ["thing"] 2 1 false F_is_poly := def_ok B.d_is_poly sc_is_poly rfl (fun z => nomatch z) fun f cdv A outer s H E hr => bd_is_poly B hr
theorem bd_want_poly (B : Tx K mg) {f : Addr} {cdv : Value} {A : Around} {outer : List PySem.Env} {s : Shared} {H : Hp} {E : XK} (hr : Room 2 (A.deeper (envOfC "want_poly" (defScope st_want_poly) s.heap.objs.size f cdv))) :
    BJ (cxOf (L2N.CX P w) P w K mg base ["thing"] "want_poly" (defScope st_want_poly) f cdv A outer s H E) (fun cls d _ H => E cls d H) false (defBody st_want_poly) D_want_poly :=
  (b_cons (s_if (t_not (t_val (e_callD (ok_is_poly B) hr (by decide) tk_of (by rfl) (a_cons (e_var (pv 0)) a_nil) (ALen.cons ALen.nil))))
(b_cons (s_raise B.x_NoPolynomial.choose_spec rfl tk_of (by rfl))
b_nil)
b_nil)
b_nil)
theorem ok_want_poly (B : Tx K mg) : Okd P w K mg base "want_poly" ["thing"] 3 1 false F_want_poly := def_ok B.d_want_poly sc_want_poly rfl (fun z => nomatch z) fun f cdv A outer s H E hr => bd_want_poly B hr
theorem bd_whole_worth (B : Tx K mg) {f : Addr} {cdv : Value} {A : Around} {outer : List PySem.Env} {s : Shared} {H : Hp} {E : XK} (hr : Room 0 (A.deeper (envOfC "whole_worth" (defScope st_whole_worth) s.heap.objs.size f cdv))) :
    BJ (cxOf (L2N.CX P w) P w K mg base ["poly", "number", "found", "one"] "whole_worth" (defScope st_whole_worth) f cdv A outer s H E) (fun cls d _ H => E cls d H) false (defBody st_whole_worth) D_whole_worth :=
  (b_cons (s_set (i := 2) sc_whole_worth.nd rfl (Or.inl rfl) e_int)
(b_cons (s_for hp_of rfl (i_rev B.n_reversed (by rfl) (e_var (pv 0))) (g_name (pg_name (i := 3) sc_whole_worth.nd rfl (Or.inl rfl)))
(b_cons (s_set (i := 2) sc_whole_worth.nd rfl (Or.inl rfl) (e_add (e_s_t (e_mul (e_varT (pv 2)) (e_varT (pv 1)))) (e_varT (pv 3))))
b_nil))
(b_cons (s_ret (e_var (pv 2)))
b_nil)))
theorem ok_whole_worth (B : Tx K mg) : Okd P w K mg base "whole_worth" ["poly", "number"] 1 2 false F_whole_worth := def_ok B.d_whole_worth sc_whole_worth rfl (fun z => nomatch z) fun f cdv A outer s H E hr => bd_whole_worth B hr
theorem bd_slope_of (B : Tx K mg) {f : Addr} {cdv : Value} {A : Around} {outer : List PySem.Env} {s : Shared} {H : Hp} {E : XK} (hr : Room 3 (A.deeper (envOfC "slope_of" (defScope st_slope_of) s.heap.objs.size f cdv))) :
    BJ (cxOf (L2N.CX P w) P w K mg base ["poly", "k", "number"] "slope_of" (defScope st_slope_of) f cdv A outer s H E) (fun cls d _ H => E cls d H) true (defBody st_slope_of) D_slope_of :=
  (b_cons (s_expr (e_callD (ok_want_poly B) hr (by decide) tk_of (by rfl) (a_cons (e_var (pv 0)) a_nil) (ALen.cons ALen.nil)))
(b_cons (s_retF (e_sliceL (e_f_t (e_lc (own := [("k", 1), ("number", 2)]) rfl sc_slope_of.nd (i_enum B.n_enumerate (by rfl) (e_var (pv 0))) (blkOk_by (own := [("k", 1), ("number", 2)]) (N := ["poly", "k", "number"]) (sc := defScope st_slope_of) (by decide +kernel)) (by decide) (fun _ _ _ _ _ => (g_tup rfl (gs_cons (g_name (pg_name (i := 1) sc_slope_of.nd rfl (Or.inl rfl))) (gs_cons (g_name (pg_name (i := 2) sc_slope_of.nd rfl (Or.inl rfl))) gs_nil)) (gs_len (gs_len gs_len0)))) (fun _ _ _ _ _ => c_nil) (fun _ _ _ _ _ => (e_mul (e_varT (pv 1)) (e_varT (pv 2)))))) (o_some e_int) o_none))
b_nil))
theorem ok_slope_of (B : Tx K mg) : Okd P w K mg base "slope_of" ["poly"] 4 1 true F_slope_of := def_ok B.d_slope_of sc_slope_of rfl (fun _ => (nn_seqR (nn_seqL (nn_ret _)))) fun f cdv A outer s H E hr => bd_slope_of B hr
theorem bd_points_of (B : Tx K mg) {f : Addr} {cdv : Value} {A : Around} {outer : List PySem.Env} {s : Shared} {H : Hp} {E : XK} (hr : Room 2 (A.deeper (envOfC "points_of" (defScope st_points_of) s.heap.objs.size f cdv))) :
    BJ (cxOf (L2N.CX P w) P w K mg base ["p", "poly", "at", "number"] "points_of" (defScope st_points_of) f cdv A outer s H E) (fun cls d _ H => E cls d H) true (defBody st_points_of) D_points_of :=
  (b_cons (s_if (t_not (t_val (e_callD (ok_is_prime B) hr (by decide) tk_of (by rfl) (a_cons (e_var (pv 0)) a_nil) (ALen.cons ALen.nil))))
(b_cons (s_raise B.x_NoPrime.choose_spec rfl tk_of (by rfl))
b_nil)
b_nil)
(b_cons (s_if (t_not (t_val (e_callD (ok_is_poly B) hr (by decide) tk_of (by rfl) (a_cons (e_var (pv 1)) a_nil) (ALen.cons ALen.nil))))
(b_cons (s_raise B.x_NoPolynomial.choose_spec rfl tk_of (by rfl))
b_nil)
b_nil)
(b_cons (s_retF (e_lc (own := [("at", 2), ("number", 3)]) rfl sc_points_of.nd (i_enum B.n_enumerate (by rfl) (e_var (pv 1))) (blkOk_by (own := [("at", 2), ("number", 3)]) (N := ["p", "poly", "at", "number"]) (sc := defScope st_points_of) (by decide +kernel)) (by decide) (fun _ _ _ _ _ => (g_tup rfl (gs_cons (g_name (pg_name (i := 2) sc_points_of.nd rfl (Or.inl rfl))) (gs_cons (g_name (pg_name (i := 3) sc_points_of.nd rfl (Or.inl rfl))) gs_nil)) (gs_len (gs_len gs_len0)))) (fun _ _ _ _ _ => (c_one (t_ne hr.units (e_varT (pv 3)) (e_s_t e_int)))) (fun _ _ _ _ _ => (e_tup (a_cons (e_var (pv 2)) (a_cons (e_callD (ok_exponent B) hr (by decide) takesN (by rfl) (a_cons (e_var (pv 0)) (a_cons (e_var (pv 3)) a_nil)) (ALen.cons (ALen.cons ALen.nil))) a_nil))))))
b_nil)))
theorem ok_points_of (B : Tx K mg) : Okd P w K mg base "points_of" ["p", "poly"] 3 2 true F_points_of := def_ok B.d_points_of sc_points_of rfl (fun _ => (nn_seqR (nn_seqR (nn_seqL (nn_ret _))))) fun f cdv A outer s H E hr => bd_points_of B hr
theorem bd_is_needless (B : Tx K mg) {f : Addr} {cdv : Value} {A : Around} {outer : List PySem.Env} {s : Shared} {H : Hp} {E : XK} (hr : Room 0 (A.deeper (envOfC "is_needless" (defScope st_is_needless) s.heap.objs.size f cdv))) :
    BJ (cxOf (L2N.CX P w) P w K mg base ["first", "middle", "last"] "is_needless" (defScope st_is_needless) f cdv A outer s H E) (fun cls d _ H => E cls d H) false (defBody st_is_needless) D_is_needless :=
  (b_cons (s_ret (e_ge (e_s_t (e_mul (e_s_t (e_sub (e_s_t (e_item (e_varT (pv 1)) (e_s_t e_int) (fun _ _ => rfl))) (e_s_t (e_item (e_varT (pv 0)) (e_s_t e_int) (fun _ _ => rfl))))) (e_s_t (e_sub (e_s_t (e_item (e_varT (pv 2)) (e_s_t e_int) (fun _ _ => rfl))) (e_s_t (e_item (e_varT (pv 0)) (e_s_t e_int) (fun _ _ => rfl))))))) (e_s_t (e_mul (e_s_t (e_sub (e_s_t (e_item (e_varT (pv 2)) (e_s_t e_int) (fun _ _ => rfl))) (e_s_t (e_item (e_varT (pv 0)) (e_s_t e_int) (fun _ _ => rfl))))) (e_s_t (e_sub (e_s_t (e_item (e_varT (pv 1)) (e_s_t e_int) (fun _ _ => rfl))) (e_s_t (e_item (e_varT (pv 0)) (e_s_t e_int) (fun _ _ => rfl)))))))))
b_nil)
theorem ok_is_needless (B : Tx K mg) : Okd P w K mg base "is_needless" ["first", "middle", "last"] 1 3 false F_is_needless := def_ok B.d_is_needless sc_is_needless rfl (fun z => nomatch z) fun f cdv A outer s H E hr => bd_is_needless B hr
theorem bd_corners_of (B : Tx K mg) {f : Addr} {cdv : Value} {A : Around} {outer : List PySem.Env} {s : Shared} {H : Hp} {E : XK} (hr : Room 3 (A.deeper (envOfC "corners_of" (defScope st_corners_of) s.heap.objs.size f cdv))) :
    BJ (cxOf (L2N.CX P w) P w K mg base ["p", "poly", "bends", "point"] "corners_of" (defScope st_corners_of) f cdv A outer s H E) (fun cls d _ H => E cls d H) true (defBody st_corners_of) D_corners_of :=
  (b_cons (s_setO (i := 2) sc_corners_of.nd rfl (Or.inl rfl) (e_lst a_nil))
(b_cons (s_for hp_of rfl (i_seq (e_f_s (e_callD (ok_points_of B) hr (by decide) tk_of (by rfl) (a_cons (e_var (pv 0)) (a_cons (e_var (pv 1)) a_nil)) (ALen.cons (ALen.cons ALen.nil))))) (g_name (pg_name (i := 3) sc_corners_of.nd rfl (Or.inl rfl)))
(b_cons (s_while hp_of (t_w (w_and (t_gt (e_s_t (e_len B.n_len (by rfl) (a_cons (e_varT (pv 2)) a_nil))) (e_s_t e_int)) (w_and1 (t_val (e_callD (ok_is_needless B) hr (by decide) tk_of (by rfl) (a_cons (e_item (e_varT (pv 2)) (e_s_t (e_neg (e_s_t e_int))) (fun _ _ => rfl)) (a_cons (e_item (e_varT (pv 2)) (e_s_t (e_neg (e_s_t e_int))) (fun _ _ => rfl)) (a_cons (e_var (pv 3)) a_nil))) (ALen.cons (ALen.cons (ALen.cons ALen.nil))))))))
(b_cons (s_pop (i := 2) (pv 2))
b_nil))
(b_cons (s_app (i := 2) (pv 2) (e_var (pv 3)))
b_nil)))
(b_cons (s_retO (i := 2) (pv 2))
b_nil)))
theorem ok_corners_of (B : Tx K mg) : Okd P w K mg base "corners_of" ["p", "poly"] 4 2 true F_corners_of := def_ok B.d_corners_of sc_corners_of rfl (fun _ => (nn_seqR (nn_seqR (nn_seqL (nn_retO _))))) fun f cdv A outer s H E hr => bd_corners_of B hr
theorem bd_sizes_of (B : Tx K mg) {f : Addr} {cdv : Value} {A : Around} {outer : List PySem.Env} {s : Shared} {H : Hp} {E : XK} (hr : Room 4 (A.deeper (envOfC "sizes_of" (defScope st_sizes_of) s.heap.objs.size f cdv))) :
    BJ (cxOf (L2N.CX P w) P w K mg base ["p", "poly", "bends", "pieces", "at", "left", "high", "right", "low"] "sizes_of" (defScope st_sizes_of) f cdv A outer s H E) (fun cls d _ H => E cls d H) false (defBody st_sizes_of) D_sizes_of :=
  (b_cons (s_set (i := 2) sc_sizes_of.nd rfl (Or.inl rfl) (e_f_s (e_callD (ok_corners_of B) hr (by decide) tk_of (by rfl) (a_cons (e_var (pv 0)) (a_cons (e_var (pv 1)) a_nil)) (ALen.cons (ALen.cons ALen.nil)))))
(b_cons (s_setO (i := 3) sc_sizes_of.nd rfl (Or.inl rfl) (e_lst a_nil))
(b_cons (s_for hp_of rfl (i_rng3 B.n_range (by rfl) (a_cons (e_s_t (e_sub (e_s_t (e_len B.n_len (by rfl) (a_cons (e_varT (pv 2)) a_nil))) (e_s_t e_int))) (a_cons (e_s_t e_int) (a_cons (e_s_t (e_neg (e_s_t e_int))) a_nil)))) (g_name (pg_name (i := 4) sc_sizes_of.nd rfl (Or.inl rfl)))
(b_cons (s_to (e_item (e_varT (pv 2)) (e_s_t (e_sub (e_varT (pv 4)) (e_s_t e_int))) (fun _ _ => rfl)) (g_tup rfl (gs_cons (g_name (pg_name (i := 5) sc_sizes_of.nd rfl (Or.inl rfl))) (gs_cons (g_name (pg_name (i := 6) sc_sizes_of.nd rfl (Or.inl rfl))) gs_nil)) (gs_len (gs_len gs_len0))))
(b_cons (s_to (e_item (e_varT (pv 2)) (e_varT (pv 4)) (fun _ _ => rfl)) (g_tup rfl (gs_cons (g_name (pg_name (i := 7) sc_sizes_of.nd rfl (Or.inl rfl))) (gs_cons (g_name (pg_name (i := 8) sc_sizes_of.nd rfl (Or.inl rfl))) gs_nil)) (gs_len (gs_len gs_len0))))
(b_cons (s_app (i := 3) (pv 3) (e_tup (a_cons (e_callD (ok_fraction B).1 hr (by decide) tk_of (by rfl) (a_cons (e_sub (e_varT (pv 6)) (e_varT (pv 8))) (a_cons (e_sub (e_varT (pv 7)) (e_varT (pv 5))) a_nil)) (ALen.cons (ALen.cons ALen.nil))) (a_cons (e_sub (e_varT (pv 7)) (e_varT (pv 5))) a_nil))))
b_nil))))
(s_frz (i := 3) (b_cons (s_ret (e_tup (a_cons (e_item (e_s_t (e_item (e_varT (pv 2)) (e_s_t e_int) (fun _ _ => rfl))) (e_s_t e_int) (fun _ _ => rfl)) (a_cons (e_var (pv 3)) a_nil))))
b_nil)))))
theorem ok_sizes_of (B : Tx K mg) : Okd P w K mg base "sizes_of" ["p", "poly"] 5 2 false F_sizes_of := def_ok B.d_sizes_of sc_sizes_of rfl (fun z => nomatch z) fun f cdv A outer s H E hr => bd_sizes_of B hr
theorem bd_are_figures (B : Tx K mg) {f : Addr} {cdv : Value} {A : Around} {outer : List PySem.Env} {s : Shared} {H : Hp} {E : XK} (hr : Room 1 (A.deeper (envOfC "are_figures" (defScope st_are_figures) s.heap.objs.size f cdv))) :
    BJ (cxOf (L2N.CX P w) P w K mg base ["p", "figures", "one"] "are_figures" (defScope st_are_figures) f cdv A outer s H E) (fun cls d _ H => E cls d H) false (defBody st_are_figures) D_are_figures :=
  (b_cons (s_if (t_not (t_val (e_isi2 (n := "list") (m := "tuple") B.n_isinstance (by rfl) (e_varT (pv 1)) (pe_bltn (by rfl) B.n_list (by decide +kernel) rfl) (pe_bltn (by rfl) B.n_tuple (by decide +kernel) rfl))))
(b_cons (s_ret e_bl)
b_nil)
b_nil)
(b_cons (s_ret (e_all rfl B.n_all (by rfl) (a_cons (e_f_t (e_lc (own := [("one", 2)]) rfl sc_are_figures.nd (i_seq (e_var (pv 1))) (blkOk_by (own := [("one", 2)]) (N := ["p", "figures", "one"]) (sc := defScope st_are_figures) (by decide +kernel)) (by decide) (fun _ _ _ _ _ => (g_name (pg_name (i := 2) sc_are_figures.nd rfl (Or.inl rfl)))) (fun _ _ _ _ _ => c_nil) (fun _ _ _ _ _ => (e_and (e_callD (ok_is_whole B) hr (by decide) takesN (by rfl) (a_cons (e_var (pv 2)) a_nil) (ALen.cons ALen.nil)) (e_one (e_leLt (e_s_t e_int) (e_varT (pv 2)) (e_varT (pv 0)))))))) a_nil)))
b_nil))
theorem ok_are_figures (B : Tx K mg) : Okd P w K mg base "are_figures" ["p", "figures"] 2 2 false F_are_figures := def_ok B.d_are_figures sc_are_figures rfl (fun z => nomatch z) fun f cdv A outer s H E hr => bd_are_figures B hr
theorem bd_left_number (B : Tx K mg) {f : Addr} {cdv : Value} {A : Around} {outer : List PySem.Env} {s : Shared} {H : Hp} {E : XK} (hr : Room 2 (A.deeper (envOfC "left_number" (defScope st_left_number) s.heap.objs.size f cdv))) :
    BJ (cxOf (L2N.CX P w) P w K mg base ["p", "least", "figures", "noughts"] "left_number" (defScope st_left_number) f cdv A outer s H E) (fun cls d _ H => E cls d H) false (defBody st_left_number) D_left_number :=
  (b_cons (s_if (t_not (t_val (e_callD (ok_is_prime B) hr (by decide) tk_of (by rfl) (a_cons (e_var (pv 0)) a_nil) (ALen.cons ALen.nil))))
(b_cons (s_raise B.x_NoPrime.choose_spec rfl tk_of (by rfl))
b_nil)
b_nil)
(b_cons (s_if (t_not (t_val (e_callD (ok_is_whole B) hr (by decide) tk_of (by rfl) (a_cons (e_var (pv 1)) a_nil) (ALen.cons ALen.nil))))
(b_cons (s_raise B.x_NoPlace.choose_spec rfl tk_of (by rfl))
b_nil)
b_nil)
(b_cons (s_if (t_not (t_val (e_callD (ok_are_figures B) hr (by decide) tk_of (by rfl) (a_cons (e_var (pv 0)) (a_cons (e_var (pv 2)) a_nil)) (ALen.cons (ALen.cons ALen.nil)))))
(b_cons (s_raise B.x_NoFigures.choose_spec rfl tk_of (by rfl))
b_nil)
b_nil)
(b_cons (s_set (i := 3) sc_left_number.nd rfl (Or.inl rfl) e_int)
(b_cons (s_while hp_of (t_w (w_and (t_lt (e_varT (pv 3)) (e_s_t (e_len B.n_len (by rfl) (a_cons (e_varT (pv 2)) a_nil)))) (w_and1 (t_eq hr.units (e_s_t (e_item (e_varT (pv 2)) (e_varT (pv 3)) (fun _ _ => rfl))) (e_s_t e_int)))))
(b_cons (s_augAdd (i := 3) sc_left_number.nd rfl (Or.inl rfl) (e_s_t e_int))
b_nil))
(b_cons (s_ret (e_tup (a_cons (e_var (pv 0)) (a_cons (e_add (e_varT (pv 1)) (e_varT (pv 3))) (a_cons (e_tuple B.n_tuple (by rfl) (a_cons (e_s_t (e_slice (e_varT (pv 2)) (o_some (e_var (pv 3))) o_none)) a_nil)) a_nil)))))
b_nil))))))
theorem ok_left_number (B : Tx K mg) : Okd P w K mg base "left_number" ["p", "least", "figures"] 3 3 false F_left_number := def_ok B.d_left_number sc_left_number rfl (fun z => nomatch z) fun f cdv A outer s H E hr => bd_left_number B hr
theorem bd_of_whole (B : Tx K mg) {f : Addr} {cdv : Value} {A : Around} {outer : List PySem.Env} {s : Shared} {H : Hp} {E : XK} (hr : Room 3 (A.deeper (envOfC "of_whole" (defScope st_of_whole) s.heap.objs.size f cdv))) :
    BJ (cxOf (L2N.CX P w) P w K mg base ["p", "least", "number", "many", "figures", "k", "digit"] "of_whole" (defScope st_of_whole) f cdv A outer s H E) (fun cls d _ H => E cls d H) false (defBody st_of_whole) D_of_whole :=
  (b_cons (s_setO (i := 4) sc_of_whole.nd rfl (Or.inl rfl) (e_lst a_nil))
(b_cons (s_for hp_of rfl (i_rng1 B.n_range (by rfl) (a_cons (e_varT (pv 3)) a_nil)) (g_name (pg_name (i := 5) sc_of_whole.nd rfl (Or.inl rfl)))
(b_cons (s_to (e_divmod B.n_divmod (by rfl) (a_cons (e_varT (pv 2)) (a_cons (e_varT (pv 0)) a_nil))) (g_tup rfl (gs_cons (g_name (pg_name (i := 2) sc_of_whole.nd rfl (Or.inl rfl))) (gs_cons (g_name (pg_name (i := 6) sc_of_whole.nd rfl (Or.inl rfl))) gs_nil)) (gs_len (gs_len gs_len0))))
(b_cons (s_app (i := 4) (pv 4) (e_var (pv 6)))
b_nil)))
(s_frz (i := 4) (b_cons (s_ret (e_callD (ok_left_number B) hr (by decide) tk_of (by rfl) (a_cons (e_var (pv 0)) (a_cons (e_var (pv 1)) (a_cons (e_var (pv 4)) a_nil))) (ALen.cons (ALen.cons (ALen.cons ALen.nil)))))
b_nil))))
theorem ok_of_whole (B : Tx K mg) : Okd P w K mg base "of_whole" ["p", "least", "number", "many"] 4 4 false F_of_whole := def_ok B.d_of_whole sc_of_whole rfl (fun z => nomatch z) fun f cdv A outer s H E hr => bd_of_whole B hr
theorem bd_is_stem (B : Tx K mg) {f : Addr} {cdv : Value} {A : Around} {outer : List PySem.Env} {s : Shared} {H : Hp} {E : XK} (hr : Room 1 (A.deeper (envOfC "is_stem" (defScope st_is_stem) s.heap.objs.size f cdv))) :
    BJ (cxOf (L2N.CX P w) P w K mg base ["p", "thing", "digit"] "is_stem" (defScope st_is_stem) f cdv A outer s H E) (fun cls d _ H => E cls d H) false (defBody st_is_stem) D_is_stem :=
  (b_cons (s_if (t_w (w_or (t_not (t_val (e_isi (n := "tuple") B.n_isinstance (by rfl) (e_varT (pv 1)) (pe_bltn (by rfl) B.n_tuple (by decide +kernel) rfl)))) (w_or (t_lt (e_s_t (e_len B.n_len (by rfl) (a_cons (e_varT (pv 1)) a_nil))) (e_s_t e_int)) (w_or1 (t_gt (e_s_t (e_len B.n_len (by rfl) (a_cons (e_varT (pv 1)) a_nil))) (e_s_t (e_glI B.c_MOST_FIGURES (by rfl))))))))
(b_cons (s_ret e_bl)
b_nil)
b_nil)
(b_cons (s_ret (e_all rfl B.n_all (by rfl) (a_cons (e_f_t (e_lc (own := [("digit", 2)]) rfl sc_is_stem.nd (i_seq (e_var (pv 1))) (blkOk_by (own := [("digit", 2)]) (N := ["p", "thing", "digit"]) (sc := defScope st_is_stem) (by decide +kernel)) (by decide) (fun _ _ _ _ _ => (g_name (pg_name (i := 2) sc_is_stem.nd rfl (Or.inl rfl)))) (fun _ _ _ _ _ => c_nil) (fun _ _ _ _ _ => (e_and (e_callD (ok_is_whole B) hr (by decide) takesN (by rfl) (a_cons (e_var (pv 2)) a_nil) (ALen.cons ALen.nil)) (e_one (e_leLt (e_s_t e_int) (e_varT (pv 2)) (e_varT (pv 0)))))))) a_nil)))
b_nil))
theorem ok_is_stem (B : Tx K mg) : Okd P w K mg base "is_stem" ["p", "thing"] 2 2 false F_is_stem := def_ok B.d_is_stem sc_is_stem rfl (fun z => nomatch z) fun f cdv A outer s H E hr => bd_is_stem B hr
theorem bd_shifted (B : Tx K mg) {f : Addr} {cdv : Value} {A : Around} {outer : List PySem.Env} {s : Shared} {H : Hp} {E : XK} (hr : Room 0 (A.deeper (envOfC "shifted" (defScope st_shifted) s.heap.objs.size f cdv))) :
    BJ (cxOf (L2N.CX P w) P w K mg base ["poly", "number", "found", "first", "k"] "shifted" (defScope st_shifted) f cdv A outer s H E) (fun cls d _ H => E cls d H) true (defBody st_shifted) D_shifted :=
  (b_cons (s_setO (i := 2) sc_shifted.nd rfl (Or.inl rfl) (e_list B.n_list (by rfl) (a_cons (e_varT (pv 0)) a_nil)))
(b_cons (s_for hp_of rfl (i_rng1 B.n_range (by rfl) (a_cons (e_s_t (e_sub (e_s_t (e_len B.n_len (by rfl) (a_cons (e_varT (pv 2)) a_nil))) (e_s_t e_int))) a_nil)) (g_name (pg_name (i := 3) sc_shifted.nd rfl (Or.inl rfl)))
(b_cons (s_for hp_of rfl (i_rng3 B.n_range (by rfl) (a_cons (e_s_t (e_sub (e_s_t (e_len B.n_len (by rfl) (a_cons (e_varT (pv 2)) a_nil))) (e_s_t e_int))) (a_cons (e_s_t (e_sub (e_varT (pv 3)) (e_s_t e_int))) (a_cons (e_s_t (e_neg (e_s_t e_int))) a_nil)))) (g_name (pg_name (i := 4) sc_shifted.nd rfl (Or.inl rfl)))
(b_cons (s_augI (i := 2) (pv 2) (e_var (pv 4)) (e_mul (e_varT (pv 1)) (e_s_t (e_item (e_varT (pv 2)) (e_s_t (e_add (e_varT (pv 4)) (e_s_t e_int))) (fun _ _ => rfl)))))
b_nil))
b_nil))
(b_cons (s_retO (i := 2) (pv 2))
b_nil)))
theorem ok_shifted (B : Tx K mg) : Okd P w K mg base "shifted" ["poly", "number"] 1 2 true F_shifted := def_ok B.d_shifted sc_shifted rfl (fun _ => (nn_seqR (nn_seqR (nn_seqL (nn_retO _))))) fun f cdv A outer s H E hr => bd_shifted B hr
theorem bd_lifted (B : Tx K mg) {f : Addr} {cdv : Value} {A : Around} {outer : List PySem.Env} {s : Shared} {H : Hp} {E : XK} (hr : Room 1 (A.deeper (envOfC "lifted" (defScope st_lifted) s.heap.objs.size f cdv))) :
    BJ (cxOf (L2N.CX P w) P w K mg base ["p", "poly", "lift", "found", "k", "number"] "lifted" (defScope st_lifted) f cdv A outer s H E) (fun cls d _ H => E cls d H) false (defBody st_lifted) D_lifted :=
  (b_cons (s_set (i := 2) sc_lifted.nd rfl (Or.inl rfl) (e_min1 rfl B.n_min (by rfl) (a_cons (e_f_t (e_lc (own := [("number", 5)]) rfl sc_lifted.nd (i_seq (e_var (pv 1))) (blkOk_by (own := [("number", 5)]) (N := ["p", "poly", "lift", "found", "k", "number"]) (sc := defScope st_lifted) (by decide +kernel)) (by decide) (fun _ _ _ _ _ => (g_name (pg_name (i := 5) sc_lifted.nd rfl (Or.inl rfl)))) (fun _ _ _ _ _ => (c_one (t_ne hr.units (e_varT (pv 5)) (e_s_t e_int)))) (fun _ _ _ _ _ => (e_callD (ok_exponent B) hr (by decide) takesN (by rfl) (a_cons (e_var (pv 0)) (a_cons (e_var (pv 5)) a_nil)) (ALen.cons (ALen.cons ALen.nil)))))) a_nil)))
(b_cons (s_set (i := 3) sc_lifted.nd rfl (Or.inl rfl) (e_f_s (e_list B.n_list (by rfl) (a_cons (e_varT (pv 1)) a_nil))))
(b_cons (s_for hp_of rfl (i_rng1 B.n_range (by rfl) (a_cons (e_varT (pv 2)) a_nil)) (g_name (pg_name (i := 4) sc_lifted.nd rfl (Or.inl rfl)))
(b_cons (lcs (i := 3) (own := [("number", 5)]) (q_lc (by decide)) rfl sc_lifted.nd rfl rfl (sw_true rfl rfl rfl (by decide +kernel)) (i_seq (e_var (pv 3))) (blkOk_by (own := [("number", 5)]) (N := ["p", "poly", "lift", "found", "k", "number"]) (sc := defScope st_lifted) (by decide +kernel)) (fun _ _ _ _ _ => (g_name (pg_name (i := 5) sc_lifted.nd rfl (Or.inl rfl)))) (fun _ _ _ _ _ => c_nil) (fun _ _ _ _ _ => (e_fdiv (e_varT (pv 5)) (e_varT (pv 0)))))
b_nil))
(b_cons (s_ret (e_tup (a_cons (e_var (pv 2)) (a_cons (e_var (pv 3)) a_nil))))
b_nil))))
theorem ok_lifted (B : Tx K mg) : Okd P w K mg base "lifted" ["p", "poly"] 2 2 false F_lifted := def_ok B.d_lifted sc_lifted rfl (fun z => nomatch z) fun f cdv A outer s H E hr => bd_lifted B hr
theorem bd_one_on (B : Tx K mg) {f : Addr} {cdv : Value} {A : Around} {outer : List PySem.Env} {s : Shared} {H : Hp} {E : XK} (hr : Room 2 (A.deeper (envOfC "one_on" (defScope st_one_on) s.heap.objs.size f cdv))) :
    BJ (cxOf (L2N.CX P w) P w K mg base ["p", "poly", "digit", "by", "found", "number"] "one_on" (defScope st_one_on) f cdv A outer s H E) (fun cls d _ H => E cls d H) false (defBody st_one_on) D_one_on :=
  (b_cons (s_set (i := 3) sc_one_on.nd rfl (Or.inl rfl) e_int)
(b_cons (s_setO (i := 4) sc_one_on.nd rfl (Or.inl rfl) (e_lst a_nil))
(b_cons (s_for hp_of rfl (i_seq (e_f_s (e_callD (ok_shifted B) hr (by decide) tk_of (by rfl) (a_cons (e_var (pv 1)) (a_cons (e_var (pv 2)) a_nil)) (ALen.cons (ALen.cons ALen.nil))))) (g_name (pg_name (i := 5) sc_one_on.nd rfl (Or.inl rfl)))
(b_cons (s_app (i := 4) (pv 4) (e_mul (e_varT (pv 5)) (e_varT (pv 3))))
(b_cons (s_augMul (i := 3) sc_one_on.nd rfl (Or.inl rfl) (e_varT (pv 0)))
b_nil)))
(s_frz (i := 4) (b_cons (s_ret (e_callD (ok_lifted B) hr (by decide) tk_of (by rfl) (a_cons (e_var (pv 0)) (a_cons (e_var (pv 4)) a_nil)) (ALen.cons (ALen.cons ALen.nil))))
b_nil)))))
theorem ok_one_on (B : Tx K mg) : Okd P w K mg base "one_on" ["p", "poly", "digit"] 3 3 false F_one_on := def_ok B.d_one_on sc_one_on rfl (fun z => nomatch z) fun f cdv A outer s H E hr => bd_one_on B hr
theorem bd_seen_from (B : Tx K mg) {f : Addr} {cdv : Value} {A : Around} {outer : List PySem.Env} {s : Shared} {H : Hp} {E : XK} (hr : Room 3 (A.deeper (envOfC "seen_from" (defScope st_seen_from) s.heap.objs.size f cdv))) :
    BJ (cxOf (L2N.CX P w) P w K mg base ["p", "poly", "stem", "lift", "seen", "digit", "more"] "seen_from" (defScope st_seen_from) f cdv A outer s H E) (fun cls d _ H => E cls d H) false (defBody st_seen_from) D_seen_from :=
  (b_cons (s_to (e_callD (ok_lifted B) hr (by decide) tk_of (by rfl) (a_cons (e_var (pv 0)) (a_cons (e_var (pv 1)) a_nil)) (ALen.cons (ALen.cons ALen.nil))) (g_tup rfl (gs_cons (g_name (pg_name (i := 3) sc_seen_from.nd rfl (Or.inl rfl))) (gs_cons (g_name (pg_name (i := 4) sc_seen_from.nd rfl (Or.inl rfl))) gs_nil)) (gs_len (gs_len gs_len0))))
(b_cons (s_for hp_of rfl (i_seq (e_var (pv 2))) (g_name (pg_name (i := 5) sc_seen_from.nd rfl (Or.inl rfl)))
(b_cons (s_to (e_callD (ok_one_on B) hr (by decide) tk_of (by rfl) (a_cons (e_var (pv 0)) (a_cons (e_var (pv 4)) (a_cons (e_var (pv 5)) a_nil))) (ALen.cons (ALen.cons (ALen.cons ALen.nil)))) (g_tup rfl (gs_cons (g_name (pg_name (i := 6) sc_seen_from.nd rfl (Or.inl rfl))) (gs_cons (g_name (pg_name (i := 4) sc_seen_from.nd rfl (Or.inl rfl))) gs_nil)) (gs_len (gs_len gs_len0))))
(b_cons (s_augAdd (i := 3) sc_seen_from.nd rfl (Or.inl rfl) (e_varT (pv 6)))
b_nil)))
(b_cons (s_ret (e_tup (a_cons (e_var (pv 3)) (a_cons (e_var (pv 4)) a_nil))))
b_nil)))
theorem ok_seen_from (B : Tx K mg) : Okd P w K mg base "seen_from" ["p", "poly", "stem"] 4 3 false F_seen_from := def_ok B.d_seen_from sc_seen_from rfl (fun z => nomatch z) fun f cdv A outer s H E hr => bd_seen_from B hr
theorem bd_word_of (B : Tx K mg) {f : Addr} {cdv : Value} {A : Around} {outer : List PySem.Env} {s : Shared} {H : Hp} {E : XK} (hr : Room 4 (A.deeper (envOfC "word_of" (defScope st_word_of) s.heap.objs.size f cdv))) :
    BJ (cxOf (L2N.CX P w) P w K mg base ["p", "seen", "digit"] "word_of" (defScope st_word_of) f cdv A outer s H E) (fun cls d _ H => E cls d H) false (defBody st_word_of) D_word_of :=
  (b_cons (s_if (t_ne hr.units (e_s_t (e_mod (e_s_t (e_callD (ok_whole_worth B) hr (by decide) tk_of (by rfl) (a_cons (e_var (pv 1)) (a_cons (e_var (pv 2)) a_nil)) (ALen.cons (ALen.cons ALen.nil)))) (e_varT (pv 0)))) (e_s_t e_int))
(b_cons (s_ret e_str)
b_nil)
b_nil)
(b_cons (s_if (t_ne hr.units (e_s_t (e_mod (e_s_t (e_callD (ok_whole_worth B) hr (by decide) tk_of (by rfl) (a_cons (e_f_s (e_callD (ok_slope_of B) hr (by decide) tk_of (by rfl) (a_cons (e_var (pv 1)) a_nil) (ALen.cons ALen.nil))) (a_cons (e_var (pv 2)) a_nil)) (ALen.cons (ALen.cons ALen.nil)))) (e_varT (pv 0)))) (e_s_t e_int))
(b_cons (s_ret e_str)
b_nil)
b_nil)
(b_cons (s_ret e_str)
b_nil)))
theorem ok_word_of (B : Tx K mg) : Okd P w K mg base "word_of" ["p", "seen", "digit"] 5 3 false F_word_of := def_ok B.d_word_of sc_word_of rfl (fun z => nomatch z) fun f cdv A outer s H E hr => bd_word_of B hr
theorem bd_grown (B : Tx K mg) {n : Nat} {G : List PV → R PV} (ih : Okd P w K mg base "grown" ["p", "stem", "depth", "seen", "lift"] (5 + n) 5 true G) {f : Addr} {cdv : Value} {A : Around} {outer : List PySem.Env} {s : Shared} {H : Hp} {E : XK} (hr : Room (5 + n) (A.deeper (envOfC "grown" (defScope st_grown) s.heap.objs.size f cdv))) :
    BJ (cxOf (L2N.CX P w) P w K mg base ["p", "stem", "depth", "seen", "lift", "found", "digit", "longer", "word", "more", "beyond"] "grown" (defScope st_grown) f cdv A outer s H E) (fun cls d _ H => E cls d H) true (defBody st_grown) (D_grown G) :=
  (b_cons (s_setO (i := 5) sc_grown.nd rfl (Or.inl rfl) (e_lst a_nil))
(b_cons (s_for hp_of rfl (i_rng1 B.n_range (by rfl) (a_cons (e_varT (pv 0)) a_nil)) (g_name (pg_name (i := 6) sc_grown.nd rfl (Or.inl rfl)))
(b_cons (s_set (i := 7) sc_grown.nd rfl (Or.inl rfl) (e_add (e_varT (pv 1)) (e_s_t (e_tup (a_cons (e_var (pv 6)) a_nil)))))
(b_cons (s_set (i := 8) sc_grown.nd rfl (Or.inl rfl) (e_callD (ok_word_of B) hr (by omega) tk_of (by rfl) (a_cons (e_var (pv 0)) (a_cons (e_var (pv 3)) (a_cons (e_var (pv 6)) a_nil))) (ALen.cons (ALen.cons (ALen.cons ALen.nil)))))
(b_cons (s_if (t_eq hr.units (e_varT (pv 8)) (e_s_t e_str))
(b_cons (s_app (i := 5) (pv 5) (e_tup (a_cons (e_var (pv 7)) (a_cons e_str (a_cons (e_var (pv 4)) a_nil)))))
b_nil)
(b_cons (s_if (t_eq hr.units (e_varT (pv 8)) (e_s_t e_str))
(b_cons (s_app (i := 5) (pv 5) (e_tup (a_cons (e_var (pv 7)) (a_cons e_str (a_cons (e_sub (e_varT (pv 4)) (e_s_t (e_len B.n_len (by rfl) (a_cons (e_varT (pv 1)) a_nil)))) a_nil)))))
b_nil)
(b_cons (s_to (e_callD (ok_one_on B) hr (by omega) tk_of (by rfl) (a_cons (e_var (pv 0)) (a_cons (e_var (pv 3)) (a_cons (e_var (pv 6)) a_nil))) (ALen.cons (ALen.cons (ALen.cons ALen.nil)))) (g_tup rfl (gs_cons (g_name (pg_name (i := 9) sc_grown.nd rfl (Or.inl rfl))) (gs_cons (g_name (pg_name (i := 10) sc_grown.nd rfl (Or.inl rfl))) gs_nil)) (gs_len (gs_len gs_len0))))
(b_cons (s_if (t_eq hr.units (e_s_t (e_len B.n_len (by rfl) (a_cons (e_varT (pv 7)) a_nil))) (e_varT (pv 2)))
(b_cons (s_app (i := 5) (pv 5) (e_tup (a_cons (e_var (pv 7)) (a_cons e_str (a_cons (e_add (e_varT (pv 4)) (e_varT (pv 9))) a_nil)))))
b_nil)
(b_cons (s_ext (i := 5) (pv 5) (e_f_t (e_callD ih hr (by omega) tk_of (by rfl) (a_cons (e_var (pv 0)) (a_cons (e_var (pv 7)) (a_cons (e_var (pv 2)) (a_cons (e_var (pv 10)) (a_cons (e_add (e_varT (pv 4)) (e_varT (pv 9))) a_nil))))) (ALen.cons (ALen.cons (ALen.cons (ALen.cons (ALen.cons ALen.nil))))))))
b_nil))
b_nil)))
b_nil))
b_nil))))
(b_cons (s_retO (i := 5) (pv 5))
b_nil)))
theorem ok_grown (B : Tx K mg) : ∀ n : Nat, Okd P w K mg base "grown" ["p", "stem", "depth", "seen", "lift"] (5 + n) 5 true (F_grown n)
  | 0 => okd_stuck B.d_grown rfl
  | n + 1 => def_ok B.d_grown sc_grown rfl (fun _ => (nn_seqR (nn_seqR (nn_seqL (nn_retO _))))) fun f cdv A outer s H E hr => bd_grown B (ok_grown B n) hr
theorem bd_tree_of (B : Tx K mg) {f : Addr} {cdv : Value} {A : Around} {outer : List PySem.Env} {s : Shared} {H : Hp} {E : XK} (hr : Room 18 (A.deeper (envOfC "tree_of" (defScope st_tree_of) s.heap.objs.size f cdv))) :
    BJ (cxOf (L2N.CX P w) P w K mg base ["p", "poly", "depth", "lift", "seen"] "tree_of" (defScope st_tree_of) f cdv A outer s H E) (fun cls d _ H => E cls d H) true (defBody st_tree_of) D_tree_of :=
  (b_cons (s_if (t_not (t_val (e_callD (ok_is_prime B) hr (by decide) tk_of (by rfl) (a_cons (e_var (pv 0)) a_nil) (ALen.cons ALen.nil))))
(b_cons (s_raise B.x_NoPrime.choose_spec rfl tk_of (by rfl))
b_nil)
b_nil)
(b_cons (s_expr (e_callD (ok_want_poly B) hr (by decide) tk_of (by rfl) (a_cons (e_var (pv 1)) a_nil) (ALen.cons ALen.nil)))
(b_cons (s_if (t_w (w_or (t_not (t_val (e_callD (ok_is_whole B) hr (by decide) tk_of (by rfl) (a_cons (e_var (pv 2)) a_nil) (ALen.cons ALen.nil)))) (w_or (t_lt (e_varT (pv 2)) (e_s_t e_int)) (w_or1 (t_gt (e_varT (pv 2)) (e_s_t (e_glI B.c_MOST_DEPTH (by rfl))))))))
(b_cons (s_raise B.x_NoDepth.choose_spec rfl tk_of (by rfl))
b_nil)
b_nil)
(b_cons (s_to (e_callD (ok_seen_from B) hr (by decide) tk_of (by rfl) (a_cons (e_var (pv 0)) (a_cons (e_var (pv 1)) (a_cons (e_tup a_nil) a_nil))) (ALen.cons (ALen.cons (ALen.cons ALen.nil)))) (g_tup rfl (gs_cons (g_name (pg_name (i := 3) sc_tree_of.nd rfl (Or.inl rfl))) (gs_cons (g_name (pg_name (i := 4) sc_tree_of.nd rfl (Or.inl rfl))) gs_nil)) (gs_len (gs_len gs_len0))))
(b_cons (s_retF (e_callD (ok_grown B 13) hr (by decide) tk_of (by rfl) (a_cons (e_var (pv 0)) (a_cons (e_tup a_nil) (a_cons (e_var (pv 2)) (a_cons (e_var (pv 4)) (a_cons (e_var (pv 3)) a_nil))))) (ALen.cons (ALen.cons (ALen.cons (ALen.cons (ALen.cons ALen.nil)))))))
b_nil)))))
theorem ok_tree_of (B : Tx K mg) : Okd P w K mg base "tree_of" ["p", "poly", "depth"] 19 3 true F_tree_of := def_ok B.d_tree_of sc_tree_of rfl (fun _ => (nn_seqR (nn_seqR (nn_seqR (nn_seqR (nn_seqL (nn_ret _))))))) fun f cdv A outer s H E hr => bd_tree_of B hr
theorem bd_rise_of (B : Tx K mg) {f : Addr} {cdv : Value} {A : Around} {outer : List PySem.Env} {s : Shared} {H : Hp} {E : XK} (hr : Room 5 (A.deeper (envOfC "rise_of" (defScope st_rise_of) s.heap.objs.size f cdv))) :
    BJ (cxOf (L2N.CX P w) P w K mg base ["p", "poly", "stem", "lift", "seen", "digit", "more"] "rise_of" (defScope st_rise_of) f cdv A outer s H E) (fun cls d _ H => E cls d H) false (defBody st_rise_of) D_rise_of :=
  (b_cons (s_if (t_not (t_val (e_callD (ok_is_stem B) hr (by decide) tk_of (by rfl) (a_cons (e_var (pv 0)) (a_cons (e_var (pv 2)) a_nil)) (ALen.cons (ALen.cons ALen.nil)))))
(b_cons (s_raise B.x_NoRoot.choose_spec rfl tk_of (by rfl))
b_nil)
b_nil)
(b_cons (s_to (e_callD (ok_seen_from B) hr (by decide) tk_of (by rfl) (a_cons (e_var (pv 0)) (a_cons (e_var (pv 1)) (a_cons (e_tup a_nil) a_nil))) (ALen.cons (ALen.cons (ALen.cons ALen.nil)))) (g_tup rfl (gs_cons (g_name (pg_name (i := 3) sc_rise_of.nd rfl (Or.inl rfl))) (gs_cons (g_name (pg_name (i := 4) sc_rise_of.nd rfl (Or.inl rfl))) gs_nil)) (gs_len (gs_len gs_len0))))
(b_cons (s_for hp_of rfl (i_seq (e_slice (e_varT (pv 2)) o_none (o_some (e_neg (e_s_t e_int))))) (g_name (pg_name (i := 5) sc_rise_of.nd rfl (Or.inl rfl)))
(b_cons (s_if (t_ne hr.units (e_s_t (e_callD (ok_word_of B) hr (by decide) tk_of (by rfl) (a_cons (e_var (pv 0)) (a_cons (e_var (pv 4)) (a_cons (e_var (pv 5)) a_nil))) (ALen.cons (ALen.cons (ALen.cons ALen.nil))))) (e_s_t e_str))
(b_cons (s_raise B.x_NoRoot.choose_spec rfl tk_of (by rfl))
b_nil)
b_nil)
(b_cons (s_to (e_callD (ok_one_on B) hr (by decide) tk_of (by rfl) (a_cons (e_var (pv 0)) (a_cons (e_var (pv 4)) (a_cons (e_var (pv 5)) a_nil))) (ALen.cons (ALen.cons (ALen.cons ALen.nil)))) (g_tup rfl (gs_cons (g_name (pg_name (i := 6) sc_rise_of.nd rfl (Or.inl rfl))) (gs_cons (g_name (pg_name (i := 4) sc_rise_of.nd rfl (Or.inl rfl))) gs_nil)) (gs_len (gs_len gs_len0))))
(b_cons (s_augAdd (i := 3) sc_rise_of.nd rfl (Or.inl rfl) (e_varT (pv 6)))
b_nil))))
(b_cons (s_if (t_ne hr.units (e_s_t (e_callD (ok_word_of B) hr (by decide) tk_of (by rfl) (a_cons (e_var (pv 0)) (a_cons (e_var (pv 4)) (a_cons (e_item (e_varT (pv 2)) (e_s_t (e_neg (e_s_t e_int))) (fun _ _ => rfl)) a_nil))) (ALen.cons (ALen.cons (ALen.cons ALen.nil))))) (e_s_t e_str))
(b_cons (s_raise B.x_NoRoot.choose_spec rfl tk_of (by rfl))
b_nil)
b_nil)
(b_cons (s_ret (e_add (e_s_t (e_sub (e_varT (pv 3)) (e_s_t (e_len B.n_len (by rfl) (a_cons (e_varT (pv 2)) a_nil))))) (e_s_t e_int)))
b_nil)))))
theorem ok_rise_of (B : Tx K mg) : Okd P w K mg base "rise_of" ["p", "poly", "stem"] 6 3 false F_rise_of := def_ok B.d_rise_of sc_rise_of rfl (fun z => nomatch z) fun f cdv A outer s H E hr => bd_rise_of B hr
theorem bd_undone (B : Tx K mg) {f : Addr} {cdv : Value} {A : Around} {outer : List PySem.Env} {s : Shared} {H : Hp} {E : XK} (hr : Room 0 (A.deeper (envOfC "undone" (defScope st_undone) s.heap.objs.size f cdv))) :
    BJ (cxOf (L2N.CX P w) P w K mg base ["p", "number", "digit"] "undone" (defScope st_undone) f cdv A outer s H E) (fun cls d _ H => E cls d H) false (defBody st_undone) D_undone :=
  (b_cons (s_for hp_of rfl (i_rng2 B.n_range (by rfl) (a_cons (e_s_t e_int) (a_cons (e_varT (pv 0)) a_nil))) (g_name (pg_name (i := 2) sc_undone.nd rfl (Or.inl rfl)))
(b_cons (s_if (t_eq hr.units (e_s_t (e_mod (e_s_t (e_mul (e_varT (pv 2)) (e_varT (pv 1)))) (e_varT (pv 0)))) (e_s_t e_int))
(b_cons (s_ret (e_var (pv 2)))
b_nil)
b_nil)
b_nil))
(b_cons (s_ret e_int)
b_nil))
theorem ok_undone (B : Tx K mg) : Okd P w K mg base "undone" ["p", "number"] 1 2 false F_undone := def_ok B.d_undone sc_undone rfl (fun z => nomatch z) fun f cdv A outer s H E hr => bd_undone B hr
theorem bd_root_of (B : Tx K mg) {f : Addr} {cdv : Value} {A : Around} {outer : List PySem.Env} {s : Shared} {H : Hp} {E : XK} (hr : Room 6 (A.deeper (envOfC "root_of" (defScope st_root_of) s.heap.objs.size f cdv))) :
    BJ (cxOf (L2N.CX P w) P w K mg base ["p", "poly", "stem", "place", "rise", "root", "by", "digit", "low", "k", "turn"] "root_of" (defScope st_root_of) f cdv A outer s H E) (fun cls d _ H => E cls d H) false (defBody st_root_of) D_root_of :=
  (b_cons (s_if (t_not (t_val (e_callD (ok_is_prime B) hr (by decide) tk_of (by rfl) (a_cons (e_var (pv 0)) a_nil) (ALen.cons ALen.nil))))
(b_cons (s_raise B.x_NoPrime.choose_spec rfl tk_of (by rfl))
b_nil)
b_nil)
(b_cons (s_expr (e_callD (ok_want_poly B) hr (by decide) tk_of (by rfl) (a_cons (e_var (pv 1)) a_nil) (ALen.cons ALen.nil)))
(b_cons (s_set (i := 4) sc_root_of.nd rfl (Or.inl rfl) (e_callD (ok_rise_of B) hr (by decide) tk_of (by rfl) (a_cons (e_var (pv 0)) (a_cons (e_var (pv 1)) (a_cons (e_var (pv 2)) a_nil))) (ALen.cons (ALen.cons (ALen.cons ALen.nil)))))
(b_cons (s_if (t_w (w_or (t_not (t_val (e_callD (ok_is_whole B) hr (by decide) tk_of (by rfl) (a_cons (e_var (pv 3)) a_nil) (ALen.cons ALen.nil)))) (w_or (t_lt (e_varT (pv 3)) (e_s_t (e_len B.n_len (by rfl) (a_cons (e_varT (pv 2)) a_nil)))) (w_or1 (t_gt (e_varT (pv 3)) (e_s_t (e_glI B.c_MOST_END (by rfl))))))))
(b_cons (s_raise B.x_NoPlace.choose_spec rfl tk_of (by rfl))
b_nil)
b_nil)
(b_cons (s_set (i := 5) sc_root_of.nd rfl (Or.inl rfl) e_int)
(b_cons (s_set (i := 6) sc_root_of.nd rfl (Or.inl rfl) e_int)
(b_cons (s_for hp_of rfl (i_seq (e_var (pv 2))) (g_name (pg_name (i := 7) sc_root_of.nd rfl (Or.inl rfl)))
(b_cons (s_augAdd (i := 5) sc_root_of.nd rfl (Or.inl rfl) (e_s_t (e_mul (e_varT (pv 7)) (e_varT (pv 6)))))
(b_cons (s_augMul (i := 6) sc_root_of.nd rfl (Or.inl rfl) (e_varT (pv 0)))
b_nil)))
(b_cons (s_set (i := 8) sc_root_of.nd rfl (Or.inl rfl) e_int)
(b_cons (s_for hp_of rfl (i_rng1 B.n_range (by rfl) (a_cons (e_varT (pv 4)) a_nil)) (g_name (pg_name (i := 9) sc_root_of.nd rfl (Or.inl rfl)))
(b_cons (s_augMul (i := 8) sc_root_of.nd rfl (Or.inl rfl) (e_varT (pv 0)))
b_nil))
(b_cons (s_set (i := 10) sc_root_of.nd rfl (Or.inl rfl) (e_callD (ok_undone B) hr (by decide) tk_of (by rfl) (a_cons (e_var (pv 0)) (a_cons (e_fdiv (e_s_t (e_callD (ok_whole_worth B) hr (by decide) tk_of (by rfl) (a_cons (e_f_s (e_callD (ok_slope_of B) hr (by decide) tk_of (by rfl) (a_cons (e_var (pv 1)) a_nil) (ALen.cons ALen.nil))) (a_cons (e_var (pv 5)) a_nil)) (ALen.cons (ALen.cons ALen.nil)))) (e_varT (pv 8))) a_nil)) (ALen.cons (ALen.cons ALen.nil))))
(b_cons (s_for hp_of rfl (i_rng2 B.n_range (by rfl) (a_cons (e_s_t (e_len B.n_len (by rfl) (a_cons (e_varT (pv 2)) a_nil))) (a_cons (e_varT (pv 3)) a_nil))) (g_name (pg_name (i := 9) sc_root_of.nd rfl (Or.inl rfl)))
(b_cons (s_augAdd (i := 5) sc_root_of.nd rfl (Or.inl rfl) (e_s_t (e_mul (e_s_t (e_mod (e_s_t (e_mul (e_s_t (e_neg (e_s_t (e_fdiv (e_s_t (e_callD (ok_whole_worth B) hr (by decide) tk_of (by rfl) (a_cons (e_var (pv 1)) (a_cons (e_var (pv 5)) a_nil)) (ALen.cons (ALen.cons ALen.nil)))) (e_s_t (e_mul (e_varT (pv 8)) (e_varT (pv 6)))))))) (e_varT (pv 10)))) (e_varT (pv 0)))) (e_varT (pv 6)))))
(b_cons (s_augMul (i := 6) sc_root_of.nd rfl (Or.inl rfl) (e_varT (pv 0)))
b_nil)))
(b_cons (s_ret (e_callD (ok_of_whole B) hr (by decide) tk_of (by rfl) (a_cons (e_var (pv 0)) (a_cons e_int (a_cons (e_var (pv 5)) (a_cons (e_var (pv 3)) a_nil)))) (ALen.cons (ALen.cons (ALen.cons (ALen.cons ALen.nil))))))
b_nil))))))))))))
theorem ok_root_of (B : Tx K mg) : Okd P w K mg base "root_of" ["p", "poly", "stem", "place"] 7 4 false F_root_of := def_ok B.d_root_of sc_root_of rfl (fun z => nomatch z) fun f cdv A outer s H E hr => bd_root_of B hr
theorem bd__law_cell_at (B : Tx K mg) {f : Addr} {cdv : Value} {A : Around} {outer : List PySem.Env} {s : Shared} {H : Hp} {E : XK} (hr : Room 0 (A.deeper (envOfC "_law_cell_at" (defScope st__law_cell_at) s.heap.objs.size f cdv))) :
    BJ (cxOf (L2N.CX P w) P w K mg base ["_law_script", "_law_k"] "_law_cell_at" (defScope st__law_cell_at) f cdv A outer s H E) (fun cls d _ H => E cls d H) false (defBody st__law_cell_at) D__law_cell_at :=
  (b_cons (s_if (t_lt (e_varT (pv 1)) (e_s_t (e_len B.n_len (by rfl) (a_cons (e_varT (pv 0)) a_nil))))
(b_cons (s_ret (e_item (e_varT (pv 0)) (e_varT (pv 1)) (fun _ _ => rfl)))
b_nil)
b_nil)
(b_cons (s_ret e_int)
b_nil))
theorem ok__law_cell_at (B : Tx K mg) : Okd P w K mg base "_law_cell_at" ["_law_script", "_law_k"] 1 2 false F__law_cell_at := def_ok B.d__law_cell_at sc__law_cell_at rfl (fun z => nomatch z) fun f cdv A outer s H E hr => bd__law_cell_at B hr
theorem bd__law_prime (B : Tx K mg) {f : Addr} {cdv : Value} {A : Around} {outer : List PySem.Env} {s : Shared} {H : Hp} {E : XK} (hr : Room 0 (A.deeper (envOfC "_law_prime" (defScope st__law_prime) s.heap.objs.size f cdv))) :
    BJ (cxOf (L2N.CX P w) P w K mg base ["_law_cell", "_law_some"] "_law_prime" (defScope st__law_prime) f cdv A outer s H E) (fun cls d _ H => E cls d H) false (defBody st__law_prime) D__law_prime :=
  (b_cons (s_set (i := 1) sc__law_prime.nd rfl (Or.inl rfl) (e_f_s (e_lst (a_cons e_int (a_cons e_int (a_cons e_int (a_cons e_int (a_cons e_int (a_cons e_int (a_cons e_int (a_cons e_int (a_cons e_int (a_cons e_int (a_cons e_int (a_cons e_int (a_cons e_int (a_cons e_int (a_cons e_int (a_cons e_int (a_cons e_int (a_cons e_int (a_cons e_int (a_cons e_int (a_cons e_int (a_cons e_int (a_cons e_int (a_cons e_int (a_cons e_int a_nil))))))))))))))))))))))))))))
(b_cons (s_ret (e_item (e_varT (pv 1)) (e_s_t (e_mod (e_varT (pv 0)) (e_s_t e_int))) (fun _ _ => rfl)))
b_nil))
theorem ok__law_prime (B : Tx K mg) : Okd P w K mg base "_law_prime" ["_law_cell"] 1 1 false F__law_prime := def_ok B.d__law_prime sc__law_prime rfl (fun z => nomatch z) fun f cdv A outer s H E hr => bd__law_prime B hr
theorem bd__law_poly (B : Tx K mg) {f : Addr} {cdv : Value} {A : Around} {outer : List PySem.Env} {s : Shared} {H : Hp} {E : XK} (hr : Room 0 (A.deeper (envOfC "_law_poly" (defScope st__law_poly) s.heap.objs.size f cdv))) :
    BJ (cxOf (L2N.CX P w) P w K mg base ["_law_cells", "_law_p", "_law_poly_here", "_law_k", "_law_number", "_law_turn"] "_law_poly" (defScope st__law_poly) f cdv A outer s H E) (fun cls d _ H => E cls d H) true (defBody st__law_poly) D__law_poly :=
  (b_cons (s_setO (i := 2) sc__law_poly.nd rfl (Or.inl rfl) (e_lst a_nil))
(b_cons (s_for hp_of rfl (i_rng1 B.n_range (by rfl) (a_cons (e_s_t (e_len B.n_len (by rfl) (a_cons (e_varT (pv 0)) a_nil))) a_nil)) (g_name (pg_name (i := 3) sc__law_poly.nd rfl (Or.inl rfl)))
(b_cons (s_set (i := 4) sc__law_poly.nd rfl (Or.inl rfl) (e_sub (e_s_t (e_mod (e_s_t (e_fdiv (e_s_t (e_item (e_varT (pv 0)) (e_varT (pv 3)) (fun _ _ => rfl))) (e_s_t e_int))) (e_s_t e_int))) (e_s_t e_int)))
(b_cons (s_if (t_eq hr.units (e_s_t (e_mod (e_s_t (e_item (e_varT (pv 0)) (e_varT (pv 3)) (fun _ _ => rfl))) (e_s_t e_int))) (e_s_t e_int))
(b_cons (s_set (i := 4) sc__law_poly.nd rfl (Or.inl rfl) (e_sub (e_s_t (e_mod (e_s_t (e_mul (e_s_t (e_fdiv (e_s_t (e_item (e_varT (pv 0)) (e_varT (pv 3)) (fun _ _ => rfl))) (e_s_t e_int))) (e_s_t (e_add (e_s_t (e_pow (e_s_t e_int) (e_s_t e_int))) (e_s_t e_int))))) (e_s_t (e_add (e_s_t (e_mul (e_s_t e_int) (e_s_t (e_pow (e_s_t e_int) (e_s_t e_int))))) (e_s_t e_int))))) (e_s_t (e_pow (e_s_t e_int) (e_s_t e_int)))))
b_nil)
b_nil)
(b_cons (s_if (t_eq hr.units (e_s_t (e_mod (e_s_t (e_item (e_varT (pv 0)) (e_varT (pv 3)) (fun _ _ => rfl))) (e_s_t e_int))) (e_s_t e_int))
(b_cons (s_set (i := 4) sc__law_poly.nd rfl (Or.inl rfl) e_int)
b_nil)
b_nil)
(b_cons (s_for hp_of rfl (i_rng1 B.n_range (by rfl) (a_cons (e_s_t (e_mul (e_s_t (e_mod (e_s_t (e_fdiv (e_s_t (e_item (e_varT (pv 0)) (e_varT (pv 3)) (fun _ _ => rfl))) (e_s_t e_int))) (e_s_t e_int))) (e_s_t (e_int1 B.n_int (by rfl) (a_cons (e_s_t (e_gt (e_s_t (e_mod (e_s_t (e_item (e_varT (pv 0)) (e_varT (pv 3)) (fun _ _ => rfl))) (e_s_t e_int))) (e_s_t e_int))) a_nil))))) a_nil)) (g_name (pg_name (i := 5) sc__law_poly.nd rfl (Or.inl rfl)))
(b_cons (s_set (i := 4) sc__law_poly.nd rfl (Or.inl rfl) (e_mul (e_varT (pv 4)) (e_varT (pv 1))))
b_nil))
(b_cons (s_app (i := 2) (pv 2) (e_var (pv 4)))
b_nil))))))
(b_cons (s_if (t_eq hr.units (e_s_t (e_item (e_varT (pv 2)) (e_s_t (e_neg (e_s_t e_int))) (fun _ _ => rfl))) (e_s_t e_int))
(b_cons (s_setI (i := 2) (pv 2) e_int (e_neg (e_s_t e_int)))
b_nil)
b_nil)
(b_cons (s_retO (i := 2) (pv 2))
b_nil))))
theorem ok__law_poly (B : Tx K mg) : Okd P w K mg base "_law_poly" ["_law_cells", "_law_p"] 1 2 true F__law_poly := def_ok B.d__law_poly sc__law_poly rfl (fun _ => (nn_seqR (nn_seqR (nn_seqR (nn_seqL (nn_retO _)))))) fun f cdv A outer s H E hr => bd__law_poly B hr
theorem bd__law_whole (B : Tx K mg) {f : Addr} {cdv : Value} {A : Around} {outer : List PySem.Env} {s : Shared} {H : Hp} {E : XK} (hr : Room 0 (A.deeper (envOfC "_law_whole" (defScope st__law_whole) s.heap.objs.size f cdv))) :
    BJ (cxOf (L2N.CX P w) P w K mg base ["_law_got"] "_law_whole" (defScope st__law_whole) f cdv A outer s H E) (fun cls d _ H => E cls d H) false (defBody st__law_whole) D__law_whole :=
  (b_cons (s_ret (e_and (e_isi (n := "int") B.n_isinstance (by rfl) (e_varT (pv 0)) (pe_bltn (by rfl) B.n_int (by decide +kernel) rfl)) (e_one (e_not (e_isi (n := "bool") B.n_isinstance (by rfl) (e_varT (pv 0)) (pe_bltn (by rfl) B.n_bool (by decide +kernel) rfl))))))
b_nil)
theorem ok__law_whole (B : Tx K mg) : Okd P w K mg base "_law_whole" ["_law_got"] 1 1 false F__law_whole := def_ok B.d__law_whole sc__law_whole rfl (fun z => nomatch z) fun f cdv A outer s H E hr => bd__law_whole B hr
theorem bd__law_is_left (B : Tx K mg) {f : Addr} {cdv : Value} {A : Around} {outer : List PySem.Env} {s : Shared} {H : Hp} {E : XK} (hr : Room 1 (A.deeper (envOfC "_law_is_left" (defScope st__law_is_left) s.heap.objs.size f cdv))) :
    BJ (cxOf (L2N.CX P w) P w K mg base ["_law_got", "_law_p", "_law_part", "_law_digit"] "_law_is_left" (defScope st__law_is_left) f cdv A outer s H E) (fun cls d _ H => E cls d H) false (defBody st__law_is_left) D__law_is_left :=
  (b_cons (s_if (t_w (w_or (t_not (t_val (e_isi (n := "tuple") B.n_isinstance (by rfl) (e_varT (pv 0)) (pe_bltn (by rfl) B.n_tuple (by decide +kernel) rfl)))) (w_or (t_ne hr.units (e_s_t (e_len B.n_len (by rfl) (a_cons (e_varT (pv 0)) a_nil))) (e_s_t e_int)) (w_or1 (t_not (t_val (e_isi (n := "tuple") B.n_isinstance (by rfl) (e_s_t (e_item (e_varT (pv 0)) (e_s_t e_int) (fun _ _ => rfl))) (pe_bltn (by rfl) B.n_tuple (by decide +kernel) rfl))))))))
(b_cons (s_ret e_bl)
b_nil)
b_nil)
(b_cons (s_if (t_w (w_or (t_not (t_val (e_all rfl B.n_all (by rfl) (a_cons (e_f_t (e_lc (own := [("_law_part", 2)]) rfl sc__law_is_left.nd (i_seq (e_slice (e_varT (pv 0)) o_none (o_some e_int))) (blkOk_by (own := [("_law_part", 2)]) (N := ["_law_got", "_law_p", "_law_part", "_law_digit"]) (sc := defScope st__law_is_left) (by decide +kernel)) (by decide) (fun _ _ _ _ _ => (g_name (pg_name (i := 2) sc__law_is_left.nd rfl (Or.inl rfl)))) (fun _ _ _ _ _ => c_nil) (fun _ _ _ _ _ => (e_callD (ok__law_whole B) hr (by decide) takesN (by rfl) (a_cons (e_var (pv 2)) a_nil) (ALen.cons ALen.nil))))) a_nil)))) (w_or1 (t_not (t_val (e_all rfl B.n_all (by rfl) (a_cons (e_f_t (e_lc (own := [("_law_digit", 3)]) rfl sc__law_is_left.nd (i_seq (e_item (e_varT (pv 0)) (e_s_t e_int) (fun _ _ => rfl))) (blkOk_by (own := [("_law_digit", 3)]) (N := ["_law_got", "_law_p", "_law_part", "_law_digit"]) (sc := defScope st__law_is_left) (by decide +kernel)) (by decide) (fun _ _ _ _ _ => (g_name (pg_name (i := 3) sc__law_is_left.nd rfl (Or.inl rfl)))) (fun _ _ _ _ _ => c_nil) (fun _ _ _ _ _ => (e_callD (ok__law_whole B) hr (by decide) takesN (by rfl) (a_cons (e_var (pv 3)) a_nil) (ALen.cons ALen.nil))))) a_nil)))))))
(b_cons (s_ret e_bl)
b_nil)
b_nil)
(b_cons (s_if (t_not (t_val (e_all rfl B.n_all (by rfl) (a_cons (e_f_t (e_lc (own := [("_law_digit", 3)]) rfl sc__law_is_left.nd (i_seq (e_item (e_varT (pv 0)) (e_s_t e_int) (fun _ _ => rfl))) (blkOk_by (own := [("_law_digit", 3)]) (N := ["_law_got", "_law_p", "_law_part", "_law_digit"]) (sc := defScope st__law_is_left) (by decide +kernel)) (by decide) (fun _ _ _ _ _ => (g_name (pg_name (i := 3) sc__law_is_left.nd rfl (Or.inl rfl)))) (fun _ _ _ _ _ => c_nil) (fun _ _ _ _ _ => (e_and (e_le (e_s_t e_int) (e_varT (pv 3))) (e_one (e_lt (e_varT (pv 3)) (e_varT (pv 1)))))))) a_nil))))
(b_cons (s_ret e_bl)
b_nil)
b_nil)
(b_cons (s_ret (e_and (e_eq hr.units (e_s_t (e_item (e_varT (pv 0)) (e_s_t e_int) (fun _ _ => rfl))) (e_varT (pv 1))) (e_one (e_or (e_eq hr.units (e_s_t (e_item (e_varT (pv 0)) (e_s_t e_int) (fun _ _ => rfl))) (e_s_t (e_tup a_nil))) (e_one (e_gt (e_s_t (e_item (e_s_t (e_item (e_varT (pv 0)) (e_s_t e_int) (fun _ _ => rfl))) (e_s_t e_int) (fun _ _ => rfl))) (e_s_t e_int)))))))
b_nil))))
theorem ok__law_is_left (B : Tx K mg) : Okd P w K mg base "_law_is_left" ["_law_got", "_law_p"] 2 2 false F__law_is_left := def_ok B.d__law_is_left sc__law_is_left rfl (fun z => nomatch z) fun f cdv A outer s H E hr => bd__law_is_left B hr
theorem bd__law_planted (B : Tx K mg) {f : Addr} {cdv : Value} {A : Around} {outer : List PySem.Env} {s : Shared} {H : Hp} {E : XK} (hr : Room 0 (A.deeper (envOfC "_law_planted" (defScope st__law_planted) s.heap.objs.size f cdv))) :
    BJ (cxOf (L2N.CX P w) P w K mg base ["_law_cells", "_law_p", "_law_more", "_law_poly_here", "_law_cell", "_law_root", "_law_turn", "_law_made", "_law_k"] "_law_planted" (defScope st__law_planted) f cdv A outer s H E) (fun cls d _ H => E cls d H) true (defBody st__law_planted) D__law_planted :=
  (b_cons (s_setO (i := 3) sc__law_planted.nd rfl (Or.inl rfl) (e_lst (a_cons (e_add (e_s_t e_int) (e_s_t (e_mod (e_varT (pv 2)) (e_s_t e_int)))) a_nil)))
(b_cons (s_for hp_of rfl (i_seq (e_slice (e_varT (pv 0)) o_none (o_some e_int))) (g_name (pg_name (i := 4) sc__law_planted.nd rfl (Or.inl rfl)))
(b_cons (s_set (i := 5) sc__law_planted.nd rfl (Or.inl rfl) (e_sub (e_s_t (e_mod (e_varT (pv 4)) (e_s_t e_int))) (e_s_t e_int)))
(b_cons (s_for hp_of rfl (i_rng1 B.n_range (by rfl) (a_cons (e_s_t (e_mod (e_s_t (e_fdiv (e_varT (pv 4)) (e_s_t e_int))) (e_s_t e_int))) a_nil)) (g_name (pg_name (i := 6) sc__law_planted.nd rfl (Or.inl rfl)))
(b_cons (s_set (i := 5) sc__law_planted.nd rfl (Or.inl rfl) (e_mul (e_varT (pv 5)) (e_varT (pv 1))))
b_nil))
(b_cons (s_setO (i := 7) sc__law_planted.nd rfl (Or.inl rfl) (e_repL (e_f_t (e_lst (a_cons e_int a_nil))) (e_s_t (e_add (e_s_t (e_len B.n_len (by rfl) (a_cons (e_varT (pv 3)) a_nil))) (e_s_t e_int)))))
(b_cons (s_for hp_of rfl (i_rng1 B.n_range (by rfl) (a_cons (e_s_t (e_len B.n_len (by rfl) (a_cons (e_varT (pv 3)) a_nil))) a_nil)) (g_name (pg_name (i := 8) sc__law_planted.nd rfl (Or.inl rfl)))
(b_cons (s_setI (i := 7) (pv 7) (e_sub (e_s_t (e_item (e_varT (pv 7)) (e_varT (pv 8)) (fun _ _ => rfl))) (e_s_t (e_mul (e_varT (pv 5)) (e_s_t (e_item (e_varT (pv 3)) (e_varT (pv 8)) (fun _ _ => rfl)))))) (e_var (pv 8)))
(b_cons (s_setI (i := 7) (pv 7) (e_add (e_s_t (e_item (e_varT (pv 7)) (e_s_t (e_add (e_varT (pv 8)) (e_s_t e_int))) (fun _ _ => rfl))) (e_s_t (e_item (e_varT (pv 3)) (e_varT (pv 8)) (fun _ _ => rfl)))) (e_add (e_varT (pv 8)) (e_s_t e_int)))
b_nil)))
(b_cons (s_move (i := 3) (j := 7) sc__law_planted.nd rfl (Or.inl rfl) (pv 7))
b_nil))))))
(b_cons (s_if (t_eq hr.units (e_s_t (e_mod (e_s_t (e_fdiv (e_varT (pv 2)) (e_s_t e_int))) (e_s_t e_int))) (e_s_t e_int))
(b_cons (s_setI (i := 3) (pv 3) (e_add (e_s_t (e_item (e_varT (pv 3)) (e_s_t e_int) (fun _ _ => rfl))) (e_s_t e_int)) e_int)
b_nil)
b_nil)
(b_cons (s_if (t_eq hr.units (e_s_t (e_mod (e_s_t (e_fdiv (e_varT (pv 2)) (e_s_t e_int))) (e_s_t e_int))) (e_s_t e_int))
(b_cons (s_setI (i := 3) (pv 3) (e_add (e_s_t (e_item (e_varT (pv 3)) (e_s_t e_int) (fun _ _ => rfl))) (e_varT (pv 1))) e_int)
b_nil)
b_nil)
(b_cons (s_retO (i := 3) (pv 3))
b_nil)))))
theorem ok__law_planted (B : Tx K mg) : Okd P w K mg base "_law_planted" ["_law_cells", "_law_p", "_law_more"] 1 3 true F__law_planted := def_ok B.d__law_planted sc__law_planted rfl (fun _ => (nn_seqR (nn_seqR (nn_seqR (nn_seqR (nn_seqL (nn_retO _))))))) fun f cdv A outer s H E hr => bd__law_planted B hr
theorem bd__law_within (B : Tx K mg) {f : Addr} {cdv : Value} {A : Around} {outer : List PySem.Env} {s : Shared} {H : Hp} {E : XK} (hr : Room 0 (A.deeper (envOfC "_law_within" (defScope st__law_within) s.heap.objs.size f cdv))) :
    PSs (cxOf (L2N.CX P w) P w K mg base ["_law_kept", "_law_pieces", "_law_counted", "_law_part", "_law_many", "_law_one", "_law_left"] "_law_within" (defScope st__law_within) f cdv A outer s H E) (defBody st__law_within) (tSN K 2 D__law_within) :=
  (b_mkD (i := 2) sc__law_within.nd rfl (Or.inl rfl)
(b_consD (W := fun cls d _ H => E cls d H) (s_for hp_of rfl (i_seq (e_var (pv 1))) (g_tup rfl (gs_cons (g_name (pg_name (i := 3) sc__law_within.nd rfl (Or.inl rfl))) (gs_cons (g_name (pg_name (i := 4) sc__law_within.nd rfl (Or.inl rfl))) gs_nil)) (gs_len (gs_len gs_len0)))
(b_cons (s_dput (i := 2) hr.units (pv 2) (e_var (pv 3)) (e_var (pv 4)))
b_nil))
(b_consD (W := fun cls d _ H => E cls d H) (s_for hp_of rfl (i_seq (e_var (pv 0))) (g_name (pg_name (i := 5) sc__law_within.nd rfl (Or.inl rfl)))
(b_cons (s_set (i := 6) sc__law_within.nd rfl (Or.inl rfl) (e_dget (i := 2) hr.units (pv 2) (e_tup (a_cons (e_item (e_varT (pv 5)) (e_s_t e_int) (fun _ _ => rfl)) (a_cons e_int a_nil))) e_int))
(b_cons (s_if (t_lt (e_varT (pv 6)) (e_s_t e_int))
(b_cons (s_ret e_bl)
b_nil)
b_nil)
(b_cons (s_dput (i := 2) hr.units (pv 2) (e_tup (a_cons (e_item (e_varT (pv 5)) (e_s_t e_int) (fun _ _ => rfl)) (a_cons e_int a_nil))) (e_sub (e_varT (pv 6)) (e_s_t e_int)))
b_nil))))
(b_consD (W := fun cls d _ H => E cls d H) (s_ret e_bl)
b_nilD))))
theorem ok__law_within (B : Tx K mg) : Okd P w K mg base "_law_within" ["_law_kept", "_law_pieces"] 1 2 false F__law_within := def_okT B.d__law_within sc__law_within rfl (by decide) fun f cdv A outer s H E hr => bd__law_within B hr
theorem bd__law_box (B : Tx K mg) {f : Addr} {cdv : Value} {A : Around} {outer : List PySem.Env} {s : Shared} {H : Hp} {E : XK} (hr : Room 0 (A.deeper (envOfC "_law_box" (defScope st__law_box) s.heap.objs.size f cdv))) :
    BJ (cxOf (L2N.CX P w) P w K mg base ["_law_cell", "_law_number"] "_law_box" (defScope st__law_box) f cdv A outer s H E) (fun cls d _ H => E cls d H) true (defBody st__law_box) D__law_box :=
  (b_cons (s_set (i := 1) sc__law_box.nd rfl (Or.inl rfl) (e_mod (e_s_t (e_mul (e_s_t (e_add (e_s_t (e_abs B.n_abs (by rfl) (a_cons (e_varT (pv 0)) a_nil))) (e_s_t e_int))) (e_s_t (e_pow (e_s_t e_int) (e_s_t e_int))))) (e_s_t (e_add (e_s_t (e_mul (e_s_t (e_pow (e_s_t e_int) (e_s_t e_int))) (e_s_t (e_pow (e_s_t e_int) (e_s_t e_int))))) (e_s_t e_int)))))
(b_cons (s_retF (e_lst (a_cons (e_abs B.n_abs (by rfl) (a_cons (e_varT (pv 0)) a_nil)) (a_cons (e_add (e_s_t (e_mod (e_s_t (e_mul (e_varT (pv 1)) (e_varT (pv 1)))) (e_s_t (e_add (e_s_t (e_mul (e_s_t (e_pow (e_s_t e_int) (e_s_t e_int))) (e_s_t (e_pow (e_s_t e_int) (e_s_t e_int))))) (e_s_t e_int))))) (e_s_t e_int)) a_nil))))
b_nil))
theorem ok__law_box (B : Tx K mg) : Okd P w K mg base "_law_box" ["_law_cell"] 1 1 true F__law_box := def_ok B.d__law_box sc__law_box rfl (fun _ => (nn_seqR (nn_seqL (nn_ret _)))) fun f cdv A outer s H E hr => bd__law_box B hr
theorem bd__law_take (B : Tx K mg) {f : Addr} {cdv : Value} {A : Around} {outer : List PySem.Env} {s : Shared} {H : Hp} {E : XK} {a : Addr} (hr : Room 0 (A.deeper (envOfC "_law_take" (defScope st__law_take) s.heap.objs.size f cdv))) :
    BXJ (cxOf (L2N.CX P w) P w K mg base ["_law_box_here", "_law_many", "_law_digit"] "_law_take" (defScope st__law_take) f cdv A outer s H E) a (defBody st__law_take) D__law_take :=
  (xb_cons (xs_if (x_eqT hr.units (x_lift (W := WF) (e_item (e_varT (pv 0)) (e_s_t e_int) (fun _ _ => rfl))) (x_lift (W := WF) e_int))
(xb_cons (xs_setI (W := WF) (pv 0) (e_item (e_varT (pv 0)) (e_s_t e_int) (fun _ _ => rfl)) e_int)
xb_nil)
xb_nil)
(xb_cons (xs_set (i := 2) sc__law_take.nd rfl (Or.inl rfl) (x_lift (W := WF) (e_mod (e_s_t (e_item (e_varT (pv 0)) (e_s_t e_int) (fun _ _ => rfl))) (e_varT (pv 1)))))
(xb_cons (xs_setI (W := WF) (pv 0) (e_fdiv (e_s_t (e_item (e_varT (pv 0)) (e_s_t e_int) (fun _ _ => rfl))) (e_varT (pv 1))) e_int)
(xb_cons (xs_ret (x_lift (W := WF) (e_var (pv 2))))
xb_nil))))
theorem ok__law_take (B : Tx K mg) : Okb P w K mg base "_law_take" ["_law_box_here", "_law_many"] 1 F__law_take := okb_def B.d__law_take sc__law_take rfl (by decide) fun f cdv A outer s H E a hr => bd__law_take B hr
theorem bd__law_any_number (B : Tx K mg) {f : Addr} {cdv : Value} {A : Around} {outer : List PySem.Env} {s : Shared} {H : Hp} {E : XK} {a : Addr} (hr : Room 1 (A.deeper (envOfC "_law_any_number" (defScope st__law_any_number) s.heap.objs.size f cdv))) :
    BXJ (cxOf (L2N.CX P w) P w K mg base ["_law_box_here", "_law_p", "_law_way", "_law_number", "_law_turn"] "_law_any_number" (defScope st__law_any_number) f cdv A outer s H E) a (defBody st__law_any_number) D__law_any_number :=
  (xb_cons (xs_set (i := 2) sc__law_any_number.nd rfl (Or.inl rfl) (x_take (ok__law_take B) hr (by decide) tk_of (by rfl) (pv 0) (x_lift (W := WF) e_int)))
(xb_cons (xs_if (x_eqT hr.units (x_lift (W := WF) (e_var (pv 2))) (x_lift (W := WF) e_int))
(xb_cons (xs_ret (x_sub (x_take (ok__law_take B) hr (by decide) tk_of (by rfl) (pv 0) (x_lift (W := WF) (e_add (e_s_t (e_mul (e_s_t e_int) (e_s_t (e_pow (e_s_t e_int) (e_s_t e_int))))) (e_s_t e_int)))) (x_lift (W := WF) (e_pow (e_s_t e_int) (e_s_t e_int)))))
xb_nil)
xb_nil)
(xb_cons (xs_if (x_eqT hr.units (x_lift (W := WF) (e_var (pv 2))) (x_lift (W := WF) e_int))
(xb_cons (xs_ret (x_lift (W := WF) e_int))
xb_nil)
xb_nil)
(xb_cons (xs_set (i := 3) sc__law_any_number.nd rfl (Or.inl rfl) (x_sub (x_take (ok__law_take B) hr (by decide) tk_of (by rfl) (pv 0) (x_lift (W := WF) e_int)) (x_lift (W := WF) e_int)))
(xb_cons (xs_for (ts := [4]) (by decide) hp_of rfl B.n_range (by rfl) (x_take (ok__law_take B) hr (by decide) tk_of (by rfl) (pv 0) (x_lift (W := WF) e_int)) (g_name (pg_name (i := 4) sc__law_any_number.nd rfl (Or.inl rfl)))
(xb_cons (xs_if (x_lT (W := WF) (t_lt (e_s_t (e_mul (e_s_t (e_abs B.n_abs (by rfl) (a_cons (e_varT (pv 3)) a_nil))) (e_varT (pv 1)))) (e_s_t (e_pow (e_s_t e_int) (e_s_t e_int)))))
(xb_cons (xs_set (i := 3) sc__law_any_number.nd rfl (Or.inl rfl) (x_lift (W := WF) (e_mul (e_varT (pv 3)) (e_varT (pv 1)))))
xb_nil)
xb_nil)
xb_nil))
(xb_cons (xs_ret (x_lift (W := WF) (e_var (pv 3))))
xb_nil))))))
theorem ok__law_any_number (B : Tx K mg) : Okb P w K mg base "_law_any_number" ["_law_box_here", "_law_p"] 2 F__law_any_number := okb_def B.d__law_any_number sc__law_any_number rfl (by decide) fun f cdv A outer s H E a hr => bd__law_any_number B hr
theorem bd__law_any_poly (B : Tx K mg) {f : Addr} {cdv : Value} {A : Around} {outer : List PySem.Env} {s : Shared} {H : Hp} {E : XK} (hr : Room 2 (A.deeper (envOfC "_law_any_poly" (defScope st__law_any_poly) s.heap.objs.size f cdv))) :
    BJ (cxOf (L2N.CX P w) P w K mg base ["_law_cell", "_law_p", "_law_most", "_law_box_here", "_law_poly_here", "_law_k"] "_law_any_poly" (defScope st__law_any_poly) f cdv A outer s H E) (fun cls d _ H => E cls d H) true (defBody st__law_any_poly) D__law_any_poly :=
  (b_cons (s_setO (i := 3) sc__law_any_poly.nd rfl (Or.inr rfl) (e_callD (ok__law_box B) hr (by decide) tk_of (by rfl) (a_cons (e_var (pv 0)) a_nil) (ALen.cons ALen.nil)))
(b_cons (s_setLcR (i := 4) (own := [("_law_k", 5)]) (by decide) rfl sc__law_any_poly.nd rfl rfl (sw_true rfl rfl rfl (by decide +kernel)) (ix_rng1 B.n_range (by rfl) (x_add (x_lift (W := WF) e_int) (x_take (ok__law_take B) hr (by decide) tk_of (by rfl) (pv 3) (x_lift (W := WF) (e_sub (e_varT (pv 2)) (e_s_t e_int)))))) (blkOk_by (own := [("_law_k", 5)]) (N := ["_law_cell", "_law_p", "_law_most", "_law_box_here", "_law_poly_here", "_law_k"]) (sc := defScope st__law_any_poly) (by decide +kernel)) (fun _ _ _ _ _ => (g_name (pg_name (i := 5) sc__law_any_poly.nd rfl (Or.inl rfl)))) (fun _ _ _ _ _ => (x_take (ok__law_any_number B) hr (by decide) takesN (by rfl) (pv 3) (x_lift (W := WF) (e_var (pv 1))))))
(b_cons (s_if (t_eq hr.units (e_s_t (e_item (e_varT (pv 4)) (e_s_t (e_neg (e_s_t e_int))) (fun _ _ => rfl))) (e_s_t e_int))
(b_cons (s_setIX (W := fun cls d _ H => E cls d H) (i := 4) (pv 4) (x_add (x_lift (W := WF) e_int) (x_take (ok__law_take B) hr (by decide) tk_of (by rfl) (pv 3) (x_lift (W := WF) (e_pow (e_s_t e_int) (e_s_t e_int))))) (e_neg (e_s_t e_int)))
(b_cons (s_ifX (x_eqT hr.units (x_take (ok__law_take B) hr (by decide) tk_of (by rfl) (pv 3) (x_lift (W := WF) e_int)) (x_lift (W := WF) e_int))
(b_cons (s_setI (i := 4) (pv 4) (e_neg (e_s_t (e_item (e_varT (pv 4)) (e_s_t (e_neg (e_s_t e_int))) (fun _ _ => rfl)))) (e_neg (e_s_t e_int)))
b_nil)
b_nil)
b_nil))
b_nil)
(b_cons (s_retO (i := 4) (pv 4))
b_nil))))
theorem ok__law_any_poly (B : Tx K mg) : Okd P w K mg base "_law_any_poly" ["_law_cell", "_law_p", "_law_most"] 3 3 true F__law_any_poly := def_ok B.d__law_any_poly sc__law_any_poly rfl (fun _ => (nn_seqR (nn_seqR (nn_seqR (nn_seqL (nn_retO _)))))) fun f cdv A outer s H E hr => bd__law_any_poly B hr
theorem bd_law (B : Tx K mg) {f : Addr} {cdv : Value} {A : Around} {outer : List PySem.Env} {s : Shared} {H : Hp} {E : XK} (hr : Room 19 (A.deeper (envOfC "law" (defScope st_law) s.heap.objs.size f cdv))) :
    BJ (cxOf (L2N.CX P w) P w K mg base ["_law_script", "_law_way", "_law_p", "_law_cells", "_law_poly_here", "_law_last", "_law_roots", "_law_stem", "_law_word", "_law_number", "_law_one", "_law_noughts", "_law_pieces", "_law_kept"] "law" (defScope st_law) f cdv A outer s H E) (fun cls d _ H => E cls d H) false (defBody st_law) D_law :=
  (b_cons (s_set (i := 1) sc_law.nd rfl (Or.inl rfl) (e_callD (ok__law_cell_at B) hr (by decide) tk_of (by rfl) (a_cons (e_var (pv 0)) (a_cons e_int a_nil)) (ALen.cons (ALen.cons ALen.nil))))
(b_cons (s_set (i := 2) sc_law.nd rfl (Or.inl rfl) (e_item (e_f_t (e_lst (a_cons e_int (a_cons e_int (a_cons e_int (a_cons e_int (a_cons e_int a_nil))))))) (e_s_t (e_mod (e_s_t (e_callD (ok__law_cell_at B) hr (by decide) tk_of (by rfl) (a_cons (e_var (pv 0)) (a_cons e_int a_nil)) (ALen.cons (ALen.cons ALen.nil)))) (e_s_t e_int))) (fun _ _ => rfl)))
(b_cons (s_if (t_eq hr.units (e_s_t (e_mod (e_varT (pv 1)) (e_s_t e_int))) (e_s_t e_int))
(b_cons (s_set (i := 2) sc_law.nd rfl (Or.inl rfl) (e_callD (ok__law_prime B) hr (by decide) tk_of (by rfl) (a_cons (e_callD (ok__law_cell_at B) hr (by decide) tk_of (by rfl) (a_cons (e_var (pv 0)) (a_cons e_int a_nil)) (ALen.cons (ALen.cons ALen.nil))) a_nil) (ALen.cons ALen.nil)))
b_nil)
b_nil)
(b_cons (s_set (i := 3) sc_law.nd rfl (Or.inl rfl) (e_slice (e_s_t (e_add (e_s_t (e_slice (e_varT (pv 0)) (o_some e_int) (o_some e_int))) (e_f_t (e_lst (a_cons e_int (a_cons e_int a_nil)))))) o_none (o_some e_int)))
(b_cons (s_set (i := 4) sc_law.nd rfl (Or.inl rfl) (e_f_s (e_callD (ok__law_poly B) hr (by decide) tk_of (by rfl) (a_cons (e_var (pv 3)) (a_cons (e_var (pv 2)) a_nil)) (ALen.cons (ALen.cons ALen.nil)))))
(b_cons (s_if (t_eq hr.units (e_s_t (e_mod (e_s_t (e_fdiv (e_varT (pv 1)) (e_s_t e_int))) (e_s_t e_int))) (e_s_t e_int))
(b_cons (s_set (i := 4) sc_law.nd rfl (Or.inl rfl) (e_f_s (e_callD (ok__law_planted B) hr (by decide) tk_of (by rfl) (a_cons (e_slice (e_s_t (e_add (e_s_t (e_slice (e_varT (pv 0)) (o_some e_int) (o_some e_int))) (e_f_t (e_lst (a_cons e_int a_nil))))) o_none (o_some e_int)) (a_cons (e_var (pv 2)) (a_cons (e_callD (ok__law_cell_at B) hr (by decide) tk_of (by rfl) (a_cons (e_var (pv 0)) (a_cons e_int a_nil)) (ALen.cons (ALen.cons ALen.nil))) a_nil))) (ALen.cons (ALen.cons (ALen.cons ALen.nil))))))
b_nil)
b_nil)
(b_cons (s_if (t_eq hr.units (e_s_t (e_mod (e_s_t (e_fdiv (e_varT (pv 1)) (e_s_t e_int))) (e_s_t e_int))) (e_s_t e_int))
(b_cons (s_set (i := 4) sc_law.nd rfl (Or.inl rfl) (e_f_s (e_callD (ok__law_any_poly B) hr (by decide) tk_of (by rfl) (a_cons (e_callD (ok__law_cell_at B) hr (by decide) tk_of (by rfl) (a_cons (e_var (pv 0)) (a_cons e_int a_nil)) (ALen.cons (ALen.cons ALen.nil))) (a_cons (e_var (pv 2)) (a_cons e_int a_nil))) (ALen.cons (ALen.cons (ALen.cons ALen.nil))))))
b_nil)
b_nil)
(b_cons (s_set (i := 5) sc_law.nd rfl (Or.inl rfl) (e_item (e_f_t (e_lst (a_cons e_int (a_cons e_int a_nil)))) (e_s_t (e_int1 B.n_int (by rfl) (a_cons (e_s_t (e_eq hr.units (e_s_t (e_mod (e_s_t (e_fdiv (e_varT (pv 1)) (e_s_t e_int))) (e_s_t e_int))) (e_s_t e_int))) a_nil))) (fun _ _ => rfl)))
(b_cons (s_setO (i := 6) sc_law.nd rfl (Or.inl rfl) (e_lst a_nil))
(b_cons (s_for hp_of rfl (i_seq (e_f_s (e_callD (ok_tree_of B) hr (by decide) tk_of (by rfl) (a_cons (e_var (pv 2)) (a_cons (e_var (pv 4)) (a_cons (e_add (e_s_t e_int) (e_s_t (e_mod (e_s_t (e_fdiv (e_varT (pv 1)) (e_s_t e_int))) (e_s_t e_int)))) a_nil))) (ALen.cons (ALen.cons (ALen.cons ALen.nil)))))) (g_tup rfl (gs_cons (g_name (pg_name (i := 7) sc_law.nd rfl (Or.inl rfl))) (gs_cons (g_name (pg_name (i := 8) sc_law.nd rfl (Or.inl rfl))) (gs_cons (g_name (pg_name (i := 9) sc_law.nd rfl (Or.inl rfl))) gs_nil))) (gs_len (gs_len (gs_len gs_len0))))
(b_cons (s_if (t_eq hr.units (e_varT (pv 8)) (e_s_t e_str))
(b_cons (s_app (i := 6) (pv 6) (e_callD (ok_root_of B) hr (by decide) tk_of (by rfl) (a_cons (e_var (pv 2)) (a_cons (e_var (pv 4)) (a_cons (e_var (pv 7)) (a_cons (e_var (pv 5)) a_nil)))) (ALen.cons (ALen.cons (ALen.cons (ALen.cons ALen.nil))))))
b_nil)
b_nil)
b_nil))
(s_frz (i := 6) (b_cons (s_for hp_of rfl (i_seq (e_var (pv 6))) (g_name (pg_name (i := 10) sc_law.nd rfl (Or.inl rfl)))
(b_cons (s_if (t_w (w_or (t_not (t_val (e_callD (ok__law_is_left B) hr (by decide) tk_of (by rfl) (a_cons (e_var (pv 10)) (a_cons (e_var (pv 2)) a_nil)) (ALen.cons (ALen.cons ALen.nil))))) (w_or (t_ne hr.units (e_s_t (e_add (e_s_t (e_item (e_varT (pv 10)) (e_s_t e_int) (fun _ _ => rfl))) (e_s_t (e_len B.n_len (by rfl) (a_cons (e_s_t (e_item (e_varT (pv 10)) (e_s_t e_int) (fun _ _ => rfl))) a_nil))))) (e_varT (pv 5))) (w_or1 (t_lt (e_s_t (e_item (e_varT (pv 10)) (e_s_t e_int) (fun _ _ => rfl))) (e_s_t e_int))))))
(b_cons (s_ret e_bl)
b_nil)
b_nil)
b_nil))
(b_cons (s_to (e_callD (ok_sizes_of B) hr (by decide) tk_of (by rfl) (a_cons (e_var (pv 2)) (a_cons (e_var (pv 4)) a_nil)) (ALen.cons (ALen.cons ALen.nil))) (g_tup rfl (gs_cons (g_name (pg_name (i := 11) sc_law.nd rfl (Or.inl rfl))) (gs_cons (g_name (pg_name (i := 12) sc_law.nd rfl (Or.inl rfl))) gs_nil)) (gs_len (gs_len gs_len0))))
(s_frz (i := 6) (b_cons (lcs (i := 13) (own := [("_law_one", 10)]) (q_lc (by decide)) rfl sc_law.nd rfl rfl (sw_true rfl rfl rfl (by decide +kernel)) (i_seq (e_var (pv 6))) (blkOk_by (own := [("_law_one", 10)]) (N := ["_law_script", "_law_way", "_law_p", "_law_cells", "_law_poly_here", "_law_last", "_law_roots", "_law_stem", "_law_word", "_law_number", "_law_one", "_law_noughts", "_law_pieces", "_law_kept"]) (sc := defScope st_law) (by decide +kernel)) (fun _ _ _ _ _ => (g_name (pg_name (i := 10) sc_law.nd rfl (Or.inl rfl)))) (fun _ _ _ _ _ => (c_one (t_ne hr.units (e_s_t (e_item (e_varT (pv 10)) (e_s_t e_int) (fun _ _ => rfl))) (e_s_t (e_tup a_nil))))) (fun _ _ _ _ _ => (e_var (pv 10))))
(b_cons (s_if (t_gt (e_s_t (e_sub (e_s_t (e_len B.n_len (by rfl) (a_cons (e_varT (pv 6)) a_nil))) (e_s_t (e_len B.n_len (by rfl) (a_cons (e_varT (pv 13)) a_nil))))) (e_s_t (e_min2 rfl B.n_min (by rfl) (a_cons (e_s_t e_int) (a_cons (e_varT (pv 11)) a_nil)))))
(b_cons (s_ret e_bl)
b_nil)
b_nil)
(b_cons (s_ret (e_callD (ok__law_within B) hr (by decide) tk_of (by rfl) (a_cons (e_var (pv 13)) (a_cons (e_var (pv 12)) a_nil)) (ALen.cons (ALen.cons ALen.nil))))
b_nil)))))))))))))))))
end
theorem all_mk {l : PySem.W.OpenLaw} {w : World} {K : PySem.W.Frag} {h : Heap} {mg : Str → Option Value} {fa : Addr} (X : K.In h) (G : h.Ns mainGlobals mg) (hfa : mg "law" = some (.ref fa))
    {f0 : Addr} {od0 an0 : Option Addr} {sl0 : Array (Option Value)} {oc0 kV0 dc0 pm0 cd0 ct0 : Value}
    {f1 : Addr} {od1 an1 : Option Addr} {sl1 : Array (Option Value)} {oc1 kV1 dc1 pm1 cd1 ct1 : Value}
    {f2 : Addr} {od2 an2 : Option Addr} {sl2 : Array (Option Value)} {oc2 kV2 dc2 pm2 cd2 ct2 : Value}
    {f3 : Addr} {od3 an3 : Option Addr} {sl3 : Array (Option Value)} {oc3 kV3 dc3 pm3 cd3 ct3 : Value}
    {f4 : Addr} {od4 an4 : Option Addr} {sl4 : Array (Option Value)} {oc4 kV4 dc4 pm4 cd4 ct4 : Value} {T4 : Addr} {td4 : Option Addr} {tc4 : Value} {tm4 : Nat} {tt4 : Tok} {tl4 : Array (Option Value)}
    {f5 : Addr} {od5 an5 : Option Addr} {sl5 : Array (Option Value)} {oc5 kV5 dc5 pm5 cd5 ct5 : Value}
    {f6 : Addr} {od6 an6 : Option Addr} {sl6 : Array (Option Value)} {oc6 kV6 dc6 pm6 cd6 ct6 : Value}
    {f7 : Addr} {od7 an7 : Option Addr} {sl7 : Array (Option Value)} {oc7 kV7 dc7 pm7 cd7 ct7 : Value}
    {f8 : Addr} {od8 an8 : Option Addr} {sl8 : Array (Option Value)} {oc8 kV8 dc8 pm8 cd8 ct8 : Value}
    {f9 : Addr} {od9 an9 : Option Addr} {sl9 : Array (Option Value)} {oc9 kV9 dc9 pm9 cd9 ct9 : Value}
    {f10 : Addr} {od10 an10 : Option Addr} {sl10 : Array (Option Value)} {oc10 kV10 dc10 pm10 cd10 ct10 : Value}
    {f11 : Addr} {od11 an11 : Option Addr} {sl11 : Array (Option Value)} {oc11 kV11 dc11 pm11 cd11 ct11 : Value}
    {f12 : Addr} {od12 an12 : Option Addr} {sl12 : Array (Option Value)} {oc12 kV12 dc12 pm12 cd12 ct12 : Value}
    {f13 : Addr} {od13 an13 : Option Addr} {sl13 : Array (Option Value)} {oc13 kV13 dc13 pm13 cd13 ct13 : Value}
    {f14 : Addr} {od14 an14 : Option Addr} {sl14 : Array (Option Value)} {oc14 kV14 dc14 pm14 cd14 ct14 : Value}
    {f15 : Addr} {od15 an15 : Option Addr} {sl15 : Array (Option Value)} {oc15 kV15 dc15 pm15 cd15 ct15 : Value}
    {f16 : Addr} {od16 an16 : Option Addr} {sl16 : Array (Option Value)} {oc16 kV16 dc16 pm16 cd16 ct16 : Value}
    {f17 : Addr} {od17 an17 : Option Addr} {sl17 : Array (Option Value)} {oc17 kV17 dc17 pm17 cd17 ct17 : Value}
    {f18 : Addr} {od18 an18 : Option Addr} {sl18 : Array (Option Value)} {oc18 kV18 dc18 pm18 cd18 ct18 : Value}
    {f19 : Addr} {od19 an19 : Option Addr} {sl19 : Array (Option Value)} {oc19 kV19 dc19 pm19 cd19 ct19 : Value}
    {f20 : Addr} {od20 an20 : Option Addr} {sl20 : Array (Option Value)} {oc20 kV20 dc20 pm20 cd20 ct20 : Value}
    {f21 : Addr} {od21 an21 : Option Addr} {sl21 : Array (Option Value)} {oc21 kV21 dc21 pm21 cd21 ct21 : Value}
    {f22 : Addr} {od22 an22 : Option Addr} {sl22 : Array (Option Value)} {oc22 kV22 dc22 pm22 cd22 ct22 : Value}
    {f23 : Addr} {od23 an23 : Option Addr} {sl23 : Array (Option Value)} {oc23 kV23 dc23 pm23 cd23 ct23 : Value}
    {f24 : Addr} {od24 an24 : Option Addr} {sl24 : Array (Option Value)} {oc24 kV24 dc24 pm24 cd24 ct24 : Value}
    {f25 : Addr} {od25 an25 : Option Addr} {sl25 : Array (Option Value)} {oc25 kV25 dc25 pm25 cd25 ct25 : Value}
    {f26 : Addr} {od26 an26 : Option Addr} {sl26 : Array (Option Value)} {oc26 kV26 dc26 pm26 cd26 ct26 : Value}
    {f27 : Addr} {od27 an27 : Option Addr} {sl27 : Array (Option Value)} {oc27 kV27 dc27 pm27 cd27 ct27 : Value}
    {f28 : Addr} {od28 an28 : Option Addr} {sl28 : Array (Option Value)} {oc28 kV28 dc28 pm28 cd28 ct28 : Value}
    {f29 : Addr} {od29 an29 : Option Addr} {sl29 : Array (Option Value)} {oc29 kV29 dc29 pm29 cd29 ct29 : Value}
    {f30 : Addr} {od30 an30 : Option Addr} {sl30 : Array (Option Value)} {oc30 kV30 dc30 pm30 cd30 ct30 : Value}
    {f31 : Addr} {od31 an31 : Option Addr} {sl31 : Array (Option Value)} {oc31 kV31 dc31 pm31 cd31 ct31 : Value}
    {f32 : Addr} {od32 an32 : Option Addr} {sl32 : Array (Option Value)} {oc32 kV32 dc32 pm32 cd32 ct32 : Value}
    {f33 : Addr} {od33 an33 : Option Addr} {sl33 : Array (Option Value)} {oc33 kV33 dc33 pm33 cd33 ct33 : Value}
    {f34 : Addr} {od34 an34 : Option Addr} {sl34 : Array (Option Value)} {oc34 kV34 dc34 pm34 cd34 ct34 : Value}
    {f35 : Addr} {od35 an35 : Option Addr} {sl35 : Array (Option Value)} {oc35 kV35 dc35 pm35 cd35 ct35 : Value}
    {f36 : Addr} {od36 an36 : Option Addr} {sl36 : Array (Option Value)} {oc36 kV36 dc36 pm36 cd36 ct36 : Value}
    {f37 : Addr} {od37 an37 : Option Addr} {sl37 : Array (Option Value)} {oc37 kV37 dc37 pm37 cd37 ct37 : Value}
    {f38 : Addr} {od38 an38 : Option Addr} {sl38 : Array (Option Value)} {oc38 kV38 dc38 pm38 cd38 ct38 : Value}
    {t0 : Tok}
    {t1 : Tok}
    {t2 : Tok}
    {t3 : Tok}
    {t4 : Tok}
    {C0 : Addr}
    {C1 : Addr}
    {C2 : Addr}
    {C3 : Addr}
    {C4 : Addr}
    {C5 : Addr}
    {C6 : Addr}
    (a0 : PySem.W.nsIn K mainGlobals "is_whole" = some (some (.ref f0))) (l0 : K.lookup f0 = some ⟨oc0, od0, .func (PySem.W.fnOf "is_whole" "is_whole" (defArgs st_is_whole) (defBody st_is_whole) (defScope st_is_whole) .none kV0 dc0 pm0 an0 cd0 ct0), sl0⟩) (c0 : PySem.W.codeIn K cd0 "is_whole" = true) (k0 : PySem.W.keepIn K (.ref f0) = true)
    (a1 : PySem.W.nsIn K mainGlobals "is_prime" = some (some (.ref f1))) (l1 : K.lookup f1 = some ⟨oc1, od1, .func (PySem.W.fnOf "is_prime" "is_prime" (defArgs st_is_prime) (defBody st_is_prime) (defScope st_is_prime) .none kV1 dc1 pm1 an1 cd1 ct1), sl1⟩) (c1 : PySem.W.codeIn K cd1 "is_prime" = true) (k1 : PySem.W.keepIn K (.ref f1) = true)
    (a2 : PySem.W.nsIn K mainGlobals "exponent" = some (some (.ref f2))) (l2 : K.lookup f2 = some ⟨oc2, od2, .func (PySem.W.fnOf "exponent" "exponent" (defArgs st_exponent) (defBody st_exponent) (defScope st_exponent) .none kV2 dc2 pm2 an2 cd2 ct2), sl2⟩) (c2 : PySem.W.codeIn K cd2 "exponent" = true) (k2 : PySem.W.keepIn K (.ref f2) = true)
    (a3 : PySem.W.nsIn K mainGlobals "divisor" = some (some (.ref f3))) (l3 : K.lookup f3 = some ⟨oc3, od3, .func (PySem.W.fnOf "divisor" "divisor" (defArgs st_divisor) (defBody st_divisor) (defScope st_divisor) .none kV3 dc3 pm3 an3 cd3 ct3), sl3⟩) (c3 : PySem.W.codeIn K cd3 "divisor" = true) (k3 : PySem.W.keepIn K (.ref f3) = true)
    (a4 : PySem.W.nsIn K mainGlobals "fraction" = some (some (.ref f4))) (l4 : K.lookup f4 = some ⟨oc4, od4, .func (PySem.W.fnOf "fraction" "fraction" (defArgs st_fraction) (defBody st_fraction) (defScope st_fraction) (.ref T4) kV4 dc4 pm4 an4 cd4 ct4), sl4⟩) (c4 : PySem.W.codeIn K cd4 "fraction" = true) (k4 : PySem.W.keepIn K (.ref f4) = true) (lt4 : K.lookup T4 = some ⟨tc4, td4, .seq #[.int 1 tt4] tm4, tl4⟩)
    (a5 : PySem.W.nsIn K mainGlobals "is_poly" = some (some (.ref f5))) (l5 : K.lookup f5 = some ⟨oc5, od5, .func (PySem.W.fnOf "is_poly" "is_poly" (defArgs st_is_poly) (defBody st_is_poly) (defScope st_is_poly) .none kV5 dc5 pm5 an5 cd5 ct5), sl5⟩) (c5 : PySem.W.codeIn K cd5 "is_poly" = true) (k5 : PySem.W.keepIn K (.ref f5) = true)
    (a6 : PySem.W.nsIn K mainGlobals "want_poly" = some (some (.ref f6))) (l6 : K.lookup f6 = some ⟨oc6, od6, .func (PySem.W.fnOf "want_poly" "want_poly" (defArgs st_want_poly) (defBody st_want_poly) (defScope st_want_poly) .none kV6 dc6 pm6 an6 cd6 ct6), sl6⟩) (c6 : PySem.W.codeIn K cd6 "want_poly" = true) (k6 : PySem.W.keepIn K (.ref f6) = true)
    (a7 : PySem.W.nsIn K mainGlobals "whole_worth" = some (some (.ref f7))) (l7 : K.lookup f7 = some ⟨oc7, od7, .func (PySem.W.fnOf "whole_worth" "whole_worth" (defArgs st_whole_worth) (defBody st_whole_worth) (defScope st_whole_worth) .none kV7 dc7 pm7 an7 cd7 ct7), sl7⟩) (c7 : PySem.W.codeIn K cd7 "whole_worth" = true) (k7 : PySem.W.keepIn K (.ref f7) = true)
    (a8 : PySem.W.nsIn K mainGlobals "slope_of" = some (some (.ref f8))) (l8 : K.lookup f8 = some ⟨oc8, od8, .func (PySem.W.fnOf "slope_of" "slope_of" (defArgs st_slope_of) (defBody st_slope_of) (defScope st_slope_of) .none kV8 dc8 pm8 an8 cd8 ct8), sl8⟩) (c8 : PySem.W.codeIn K cd8 "slope_of" = true) (k8 : PySem.W.keepIn K (.ref f8) = true)
    (a9 : PySem.W.nsIn K mainGlobals "points_of" = some (some (.ref f9))) (l9 : K.lookup f9 = some ⟨oc9, od9, .func (PySem.W.fnOf "points_of" "points_of" (defArgs st_points_of) (defBody st_points_of) (defScope st_points_of) .none kV9 dc9 pm9 an9 cd9 ct9), sl9⟩) (c9 : PySem.W.codeIn K cd9 "points_of" = true) (k9 : PySem.W.keepIn K (.ref f9) = true)
    (a10 : PySem.W.nsIn K mainGlobals "is_needless" = some (some (.ref f10))) (l10 : K.lookup f10 = some ⟨oc10, od10, .func (PySem.W.fnOf "is_needless" "is_needless" (defArgs st_is_needless) (defBody st_is_needless) (defScope st_is_needless) .none kV10 dc10 pm10 an10 cd10 ct10), sl10⟩) (c10 : PySem.W.codeIn K cd10 "is_needless" = true) (k10 : PySem.W.keepIn K (.ref f10) = true)
    (a11 : PySem.W.nsIn K mainGlobals "corners_of" = some (some (.ref f11))) (l11 : K.lookup f11 = some ⟨oc11, od11, .func (PySem.W.fnOf "corners_of" "corners_of" (defArgs st_corners_of) (defBody st_corners_of) (defScope st_corners_of) .none kV11 dc11 pm11 an11 cd11 ct11), sl11⟩) (c11 : PySem.W.codeIn K cd11 "corners_of" = true) (k11 : PySem.W.keepIn K (.ref f11) = true)
    (a12 : PySem.W.nsIn K mainGlobals "sizes_of" = some (some (.ref f12))) (l12 : K.lookup f12 = some ⟨oc12, od12, .func (PySem.W.fnOf "sizes_of" "sizes_of" (defArgs st_sizes_of) (defBody st_sizes_of) (defScope st_sizes_of) .none kV12 dc12 pm12 an12 cd12 ct12), sl12⟩) (c12 : PySem.W.codeIn K cd12 "sizes_of" = true) (k12 : PySem.W.keepIn K (.ref f12) = true)
    (a13 : PySem.W.nsIn K mainGlobals "are_figures" = some (some (.ref f13))) (l13 : K.lookup f13 = some ⟨oc13, od13, .func (PySem.W.fnOf "are_figures" "are_figures" (defArgs st_are_figures) (defBody st_are_figures) (defScope st_are_figures) .none kV13 dc13 pm13 an13 cd13 ct13), sl13⟩) (c13 : PySem.W.codeIn K cd13 "are_figures" = true) (k13 : PySem.W.keepIn K (.ref f13) = true)
    (a14 : PySem.W.nsIn K mainGlobals "left_number" = some (some (.ref f14))) (l14 : K.lookup f14 = some ⟨oc14, od14, .func (PySem.W.fnOf "left_number" "left_number" (defArgs st_left_number) (defBody st_left_number) (defScope st_left_number) .none kV14 dc14 pm14 an14 cd14 ct14), sl14⟩) (c14 : PySem.W.codeIn K cd14 "left_number" = true) (k14 : PySem.W.keepIn K (.ref f14) = true)
    (a15 : PySem.W.nsIn K mainGlobals "of_whole" = some (some (.ref f15))) (l15 : K.lookup f15 = some ⟨oc15, od15, .func (PySem.W.fnOf "of_whole" "of_whole" (defArgs st_of_whole) (defBody st_of_whole) (defScope st_of_whole) .none kV15 dc15 pm15 an15 cd15 ct15), sl15⟩) (c15 : PySem.W.codeIn K cd15 "of_whole" = true) (k15 : PySem.W.keepIn K (.ref f15) = true)
    (a16 : PySem.W.nsIn K mainGlobals "is_stem" = some (some (.ref f16))) (l16 : K.lookup f16 = some ⟨oc16, od16, .func (PySem.W.fnOf "is_stem" "is_stem" (defArgs st_is_stem) (defBody st_is_stem) (defScope st_is_stem) .none kV16 dc16 pm16 an16 cd16 ct16), sl16⟩) (c16 : PySem.W.codeIn K cd16 "is_stem" = true) (k16 : PySem.W.keepIn K (.ref f16) = true)
    (a17 : PySem.W.nsIn K mainGlobals "shifted" = some (some (.ref f17))) (l17 : K.lookup f17 = some ⟨oc17, od17, .func (PySem.W.fnOf "shifted" "shifted" (defArgs st_shifted) (defBody st_shifted) (defScope st_shifted) .none kV17 dc17 pm17 an17 cd17 ct17), sl17⟩) (c17 : PySem.W.codeIn K cd17 "shifted" = true) (k17 : PySem.W.keepIn K (.ref f17) = true)
    (a18 : PySem.W.nsIn K mainGlobals "lifted" = some (some (.ref f18))) (l18 : K.lookup f18 = some ⟨oc18, od18, .func (PySem.W.fnOf "lifted" "lifted" (defArgs st_lifted) (defBody st_lifted) (defScope st_lifted) .none kV18 dc18 pm18 an18 cd18 ct18), sl18⟩) (c18 : PySem.W.codeIn K cd18 "lifted" = true) (k18 : PySem.W.keepIn K (.ref f18) = true)
    (a19 : PySem.W.nsIn K mainGlobals "one_on" = some (some (.ref f19))) (l19 : K.lookup f19 = some ⟨oc19, od19, .func (PySem.W.fnOf "one_on" "one_on" (defArgs st_one_on) (defBody st_one_on) (defScope st_one_on) .none kV19 dc19 pm19 an19 cd19 ct19), sl19⟩) (c19 : PySem.W.codeIn K cd19 "one_on" = true) (k19 : PySem.W.keepIn K (.ref f19) = true)
    (a20 : PySem.W.nsIn K mainGlobals "seen_from" = some (some (.ref f20))) (l20 : K.lookup f20 = some ⟨oc20, od20, .func (PySem.W.fnOf "seen_from" "seen_from" (defArgs st_seen_from) (defBody st_seen_from) (defScope st_seen_from) .none kV20 dc20 pm20 an20 cd20 ct20), sl20⟩) (c20 : PySem.W.codeIn K cd20 "seen_from" = true) (k20 : PySem.W.keepIn K (.ref f20) = true)
    (a21 : PySem.W.nsIn K mainGlobals "word_of" = some (some (.ref f21))) (l21 : K.lookup f21 = some ⟨oc21, od21, .func (PySem.W.fnOf "word_of" "word_of" (defArgs st_word_of) (defBody st_word_of) (defScope st_word_of) .none kV21 dc21 pm21 an21 cd21 ct21), sl21⟩) (c21 : PySem.W.codeIn K cd21 "word_of" = true) (k21 : PySem.W.keepIn K (.ref f21) = true)
    (a22 : PySem.W.nsIn K mainGlobals "grown" = some (some (.ref f22))) (l22 : K.lookup f22 = some ⟨oc22, od22, .func (PySem.W.fnOf "grown" "grown" (defArgs st_grown) (defBody st_grown) (defScope st_grown) .none kV22 dc22 pm22 an22 cd22 ct22), sl22⟩) (c22 : PySem.W.codeIn K cd22 "grown" = true) (k22 : PySem.W.keepIn K (.ref f22) = true)
    (a23 : PySem.W.nsIn K mainGlobals "tree_of" = some (some (.ref f23))) (l23 : K.lookup f23 = some ⟨oc23, od23, .func (PySem.W.fnOf "tree_of" "tree_of" (defArgs st_tree_of) (defBody st_tree_of) (defScope st_tree_of) .none kV23 dc23 pm23 an23 cd23 ct23), sl23⟩) (c23 : PySem.W.codeIn K cd23 "tree_of" = true) (k23 : PySem.W.keepIn K (.ref f23) = true)
    (a24 : PySem.W.nsIn K mainGlobals "rise_of" = some (some (.ref f24))) (l24 : K.lookup f24 = some ⟨oc24, od24, .func (PySem.W.fnOf "rise_of" "rise_of" (defArgs st_rise_of) (defBody st_rise_of) (defScope st_rise_of) .none kV24 dc24 pm24 an24 cd24 ct24), sl24⟩) (c24 : PySem.W.codeIn K cd24 "rise_of" = true) (k24 : PySem.W.keepIn K (.ref f24) = true)
    (a25 : PySem.W.nsIn K mainGlobals "undone" = some (some (.ref f25))) (l25 : K.lookup f25 = some ⟨oc25, od25, .func (PySem.W.fnOf "undone" "undone" (defArgs st_undone) (defBody st_undone) (defScope st_undone) .none kV25 dc25 pm25 an25 cd25 ct25), sl25⟩) (c25 : PySem.W.codeIn K cd25 "undone" = true) (k25 : PySem.W.keepIn K (.ref f25) = true)
    (a26 : PySem.W.nsIn K mainGlobals "root_of" = some (some (.ref f26))) (l26 : K.lookup f26 = some ⟨oc26, od26, .func (PySem.W.fnOf "root_of" "root_of" (defArgs st_root_of) (defBody st_root_of) (defScope st_root_of) .none kV26 dc26 pm26 an26 cd26 ct26), sl26⟩) (c26 : PySem.W.codeIn K cd26 "root_of" = true) (k26 : PySem.W.keepIn K (.ref f26) = true)
    (a27 : PySem.W.nsIn K mainGlobals "_law_cell_at" = some (some (.ref f27))) (l27 : K.lookup f27 = some ⟨oc27, od27, .func (PySem.W.fnOf "_law_cell_at" "_law_cell_at" (defArgs st__law_cell_at) (defBody st__law_cell_at) (defScope st__law_cell_at) .none kV27 dc27 pm27 an27 cd27 ct27), sl27⟩) (c27 : PySem.W.codeIn K cd27 "_law_cell_at" = true) (k27 : PySem.W.keepIn K (.ref f27) = true)
    (a28 : PySem.W.nsIn K mainGlobals "_law_prime" = some (some (.ref f28))) (l28 : K.lookup f28 = some ⟨oc28, od28, .func (PySem.W.fnOf "_law_prime" "_law_prime" (defArgs st__law_prime) (defBody st__law_prime) (defScope st__law_prime) .none kV28 dc28 pm28 an28 cd28 ct28), sl28⟩) (c28 : PySem.W.codeIn K cd28 "_law_prime" = true) (k28 : PySem.W.keepIn K (.ref f28) = true)
    (a29 : PySem.W.nsIn K mainGlobals "_law_poly" = some (some (.ref f29))) (l29 : K.lookup f29 = some ⟨oc29, od29, .func (PySem.W.fnOf "_law_poly" "_law_poly" (defArgs st__law_poly) (defBody st__law_poly) (defScope st__law_poly) .none kV29 dc29 pm29 an29 cd29 ct29), sl29⟩) (c29 : PySem.W.codeIn K cd29 "_law_poly" = true) (k29 : PySem.W.keepIn K (.ref f29) = true)
    (a30 : PySem.W.nsIn K mainGlobals "_law_whole" = some (some (.ref f30))) (l30 : K.lookup f30 = some ⟨oc30, od30, .func (PySem.W.fnOf "_law_whole" "_law_whole" (defArgs st__law_whole) (defBody st__law_whole) (defScope st__law_whole) .none kV30 dc30 pm30 an30 cd30 ct30), sl30⟩) (c30 : PySem.W.codeIn K cd30 "_law_whole" = true) (k30 : PySem.W.keepIn K (.ref f30) = true)
    (a31 : PySem.W.nsIn K mainGlobals "_law_is_left" = some (some (.ref f31))) (l31 : K.lookup f31 = some ⟨oc31, od31, .func (PySem.W.fnOf "_law_is_left" "_law_is_left" (defArgs st__law_is_left) (defBody st__law_is_left) (defScope st__law_is_left) .none kV31 dc31 pm31 an31 cd31 ct31), sl31⟩) (c31 : PySem.W.codeIn K cd31 "_law_is_left" = true) (k31 : PySem.W.keepIn K (.ref f31) = true)
    (a32 : PySem.W.nsIn K mainGlobals "_law_planted" = some (some (.ref f32))) (l32 : K.lookup f32 = some ⟨oc32, od32, .func (PySem.W.fnOf "_law_planted" "_law_planted" (defArgs st__law_planted) (defBody st__law_planted) (defScope st__law_planted) .none kV32 dc32 pm32 an32 cd32 ct32), sl32⟩) (c32 : PySem.W.codeIn K cd32 "_law_planted" = true) (k32 : PySem.W.keepIn K (.ref f32) = true)
    (a33 : PySem.W.nsIn K mainGlobals "_law_within" = some (some (.ref f33))) (l33 : K.lookup f33 = some ⟨oc33, od33, .func (PySem.W.fnOf "_law_within" "_law_within" (defArgs st__law_within) (defBody st__law_within) (defScope st__law_within) .none kV33 dc33 pm33 an33 cd33 ct33), sl33⟩) (c33 : PySem.W.codeIn K cd33 "_law_within" = true) (k33 : PySem.W.keepIn K (.ref f33) = true)
    (a34 : PySem.W.nsIn K mainGlobals "_law_box" = some (some (.ref f34))) (l34 : K.lookup f34 = some ⟨oc34, od34, .func (PySem.W.fnOf "_law_box" "_law_box" (defArgs st__law_box) (defBody st__law_box) (defScope st__law_box) .none kV34 dc34 pm34 an34 cd34 ct34), sl34⟩) (c34 : PySem.W.codeIn K cd34 "_law_box" = true) (k34 : PySem.W.keepIn K (.ref f34) = true)
    (a35 : PySem.W.nsIn K mainGlobals "_law_take" = some (some (.ref f35))) (l35 : K.lookup f35 = some ⟨oc35, od35, .func (PySem.W.fnOf "_law_take" "_law_take" (defArgs st__law_take) (defBody st__law_take) (defScope st__law_take) .none kV35 dc35 pm35 an35 cd35 ct35), sl35⟩) (c35 : PySem.W.codeIn K cd35 "_law_take" = true) (k35 : PySem.W.keepIn K (.ref f35) = true)
    (a36 : PySem.W.nsIn K mainGlobals "_law_any_number" = some (some (.ref f36))) (l36 : K.lookup f36 = some ⟨oc36, od36, .func (PySem.W.fnOf "_law_any_number" "_law_any_number" (defArgs st__law_any_number) (defBody st__law_any_number) (defScope st__law_any_number) .none kV36 dc36 pm36 an36 cd36 ct36), sl36⟩) (c36 : PySem.W.codeIn K cd36 "_law_any_number" = true) (k36 : PySem.W.keepIn K (.ref f36) = true)
    (a37 : PySem.W.nsIn K mainGlobals "_law_any_poly" = some (some (.ref f37))) (l37 : K.lookup f37 = some ⟨oc37, od37, .func (PySem.W.fnOf "_law_any_poly" "_law_any_poly" (defArgs st__law_any_poly) (defBody st__law_any_poly) (defScope st__law_any_poly) .none kV37 dc37 pm37 an37 cd37 ct37), sl37⟩) (c37 : PySem.W.codeIn K cd37 "_law_any_poly" = true) (k37 : PySem.W.keepIn K (.ref f37) = true)
    (a38 : PySem.W.nsIn K mainGlobals "law" = some (some (.ref f38))) (l38 : K.lookup f38 = some ⟨oc38, od38, .func (PySem.W.fnOf "law" "law" (defArgs st_law) (defBody st_law) (defScope st_law) .none kV38 dc38 pm38 an38 cd38 ct38), sl38⟩) (c38 : PySem.W.codeIn K cd38 "law" = true) (k38 : PySem.W.keepIn K (.ref f38) = true)
    (z0 : PySem.W.nsIn K mainGlobals "abs" = some none)
    (z1 : PySem.W.nsIn K mainGlobals "all" = some none)
    (z2 : PySem.W.nsIn K mainGlobals "bool" = some none)
    (z3 : PySem.W.nsIn K mainGlobals "divmod" = some none)
    (z4 : PySem.W.nsIn K mainGlobals "enumerate" = some none)
    (z5 : PySem.W.nsIn K mainGlobals "int" = some none)
    (z6 : PySem.W.nsIn K mainGlobals "isinstance" = some none)
    (z7 : PySem.W.nsIn K mainGlobals "len" = some none)
    (z8 : PySem.W.nsIn K mainGlobals "list" = some none)
    (z9 : PySem.W.nsIn K mainGlobals "min" = some none)
    (z10 : PySem.W.nsIn K mainGlobals "range" = some none)
    (z11 : PySem.W.nsIn K mainGlobals "reversed" = some none)
    (z12 : PySem.W.nsIn K mainGlobals "tuple" = some none)
    (g0 : PySem.W.nsIn K mainGlobals "MOST_DEPTH" = some (some (.int 12 t0)))
    (g1 : PySem.W.nsIn K mainGlobals "MOST_END" = some (some (.int 400 t1)))
    (g2 : PySem.W.nsIn K mainGlobals "MOST_FIGURES" = some (some (.int 12 t2)))
    (g3 : PySem.W.nsIn K mainGlobals "MOST_NUMBERS" = some (some (.int 9 t3)))
    (g4 : PySem.W.nsIn K mainGlobals "MOST_PRIME" = some (some (.int 97 t4)))
    (xa0 : PySem.W.nsIn K mainGlobals "NoDepth" = some (some (.ref C0))) (xe0 : PySem.W.excIn K C0 [.type "ValueError", .type "Exception", .type "BaseException", .type "object"] "ValueError.__new__" = true) (xk0 : PySem.W.keepIn K (.ref C0) = true) (xs0 : PySem.W.subIn K (.ref C0) (.type "BaseException") = some true) (xt0 : PySem.W.typeIn K (.ref C0) = some (.type "type"))
    (xa1 : PySem.W.nsIn K mainGlobals "NoFigures" = some (some (.ref C1))) (xe1 : PySem.W.excIn K C1 [.type "ValueError", .type "Exception", .type "BaseException", .type "object"] "ValueError.__new__" = true) (xk1 : PySem.W.keepIn K (.ref C1) = true) (xs1 : PySem.W.subIn K (.ref C1) (.type "BaseException") = some true) (xt1 : PySem.W.typeIn K (.ref C1) = some (.type "type"))
    (xa2 : PySem.W.nsIn K mainGlobals "NoFraction" = some (some (.ref C2))) (xe2 : PySem.W.excIn K C2 [.type "ValueError", .type "Exception", .type "BaseException", .type "object"] "ValueError.__new__" = true) (xk2 : PySem.W.keepIn K (.ref C2) = true) (xs2 : PySem.W.subIn K (.ref C2) (.type "BaseException") = some true) (xt2 : PySem.W.typeIn K (.ref C2) = some (.type "type"))
    (xa3 : PySem.W.nsIn K mainGlobals "NoPlace" = some (some (.ref C3))) (xe3 : PySem.W.excIn K C3 [.type "ValueError", .type "Exception", .type "BaseException", .type "object"] "ValueError.__new__" = true) (xk3 : PySem.W.keepIn K (.ref C3) = true) (xs3 : PySem.W.subIn K (.ref C3) (.type "BaseException") = some true) (xt3 : PySem.W.typeIn K (.ref C3) = some (.type "type"))
    (xa4 : PySem.W.nsIn K mainGlobals "NoPolynomial" = some (some (.ref C4))) (xe4 : PySem.W.excIn K C4 [.type "ValueError", .type "Exception", .type "BaseException", .type "object"] "ValueError.__new__" = true) (xk4 : PySem.W.keepIn K (.ref C4) = true) (xs4 : PySem.W.subIn K (.ref C4) (.type "BaseException") = some true) (xt4 : PySem.W.typeIn K (.ref C4) = some (.type "type"))
    (xa5 : PySem.W.nsIn K mainGlobals "NoPrime" = some (some (.ref C5))) (xe5 : PySem.W.excIn K C5 [.type "ValueError", .type "Exception", .type "BaseException", .type "object"] "ValueError.__new__" = true) (xk5 : PySem.W.keepIn K (.ref C5) = true) (xs5 : PySem.W.subIn K (.ref C5) (.type "BaseException") = some true) (xt5 : PySem.W.typeIn K (.ref C5) = some (.type "type"))
    (xa6 : PySem.W.nsIn K mainGlobals "NoRoot" = some (some (.ref C6))) (xe6 : PySem.W.excIn K C6 [.type "ValueError", .type "Exception", .type "BaseException", .type "object"] "ValueError.__new__" = true) (xk6 : PySem.W.keepIn K (.ref C6) = true) (xs6 : PySem.W.subIn K (.ref C6) (.type "BaseException") = some true) (xt6 : PySem.W.typeIn K (.ref C6) = some (.type "type"))
    : ∃ fd : FuncData, (∀ (s : Shared) (v : Value), BindsTo s fd ⟨[v], []⟩ [("_law_script", v)]) ∧ ∀ base : Heap, K.In base → base.Ns mainGlobals mg → FnOk l.prog w K mg base (L2N.CX l.prog w) 20 fa fd ["_law_script"] (spLaw K) := by
  have e := hfa.symm.trans (PySem.W.mg_of X G a38)
  cases e
  have B : Tx K mg := ⟨defE_mk X G a0 l0 c0 k0 fun _ _ _ _ _ _ us hl => match us, hl with | [_], _ => rfl,
    defE_mk X G a1 l1 c1 k1 fun _ _ _ _ _ _ us hl => match us, hl with | [_], _ => rfl,
    defE_mk X G a2 l2 c2 k2 fun _ _ _ _ _ _ us hl => match us, hl with | [_, _], _ => rfl,
    defE_mk X G a3 l3 c3 k3 fun _ _ _ _ _ _ us hl => match us, hl with | [_, _], _ => rfl,
    defED_mk X G a4 l4 c4 k4 lt4 (fun _ _ _ _ _ _ _ us its hl h2 => match us, its, hl, h2 with | [_, _], [_], _, _ => ⟨_, rfl, rfl⟩) (fun _ _ _ _ _ _ _ us its hl h2 => match us, its, hl, h2 with | [_], [_], _, _ => ⟨_, rfl, rfl⟩),
    defE_mk X G a5 l5 c5 k5 fun _ _ _ _ _ _ us hl => match us, hl with | [_], _ => rfl,
    defE_mk X G a6 l6 c6 k6 fun _ _ _ _ _ _ us hl => match us, hl with | [_], _ => rfl,
    defE_mk X G a7 l7 c7 k7 fun _ _ _ _ _ _ us hl => match us, hl with | [_, _], _ => rfl,
    defE_mk X G a8 l8 c8 k8 fun _ _ _ _ _ _ us hl => match us, hl with | [_], _ => rfl,
    defE_mk X G a9 l9 c9 k9 fun _ _ _ _ _ _ us hl => match us, hl with | [_, _], _ => rfl,
    defE_mk X G a10 l10 c10 k10 fun _ _ _ _ _ _ us hl => match us, hl with | [_, _, _], _ => rfl,
    defE_mk X G a11 l11 c11 k11 fun _ _ _ _ _ _ us hl => match us, hl with | [_, _], _ => rfl,
    defE_mk X G a12 l12 c12 k12 fun _ _ _ _ _ _ us hl => match us, hl with | [_, _], _ => rfl,
    defE_mk X G a13 l13 c13 k13 fun _ _ _ _ _ _ us hl => match us, hl with | [_, _], _ => rfl,
    defE_mk X G a14 l14 c14 k14 fun _ _ _ _ _ _ us hl => match us, hl with | [_, _, _], _ => rfl,
    defE_mk X G a15 l15 c15 k15 fun _ _ _ _ _ _ us hl => match us, hl with | [_, _, _, _], _ => rfl,
    defE_mk X G a16 l16 c16 k16 fun _ _ _ _ _ _ us hl => match us, hl with | [_, _], _ => rfl,
    defE_mk X G a17 l17 c17 k17 fun _ _ _ _ _ _ us hl => match us, hl with | [_, _], _ => rfl,
    defE_mk X G a18 l18 c18 k18 fun _ _ _ _ _ _ us hl => match us, hl with | [_, _], _ => rfl,
    defE_mk X G a19 l19 c19 k19 fun _ _ _ _ _ _ us hl => match us, hl with | [_, _, _], _ => rfl,
    defE_mk X G a20 l20 c20 k20 fun _ _ _ _ _ _ us hl => match us, hl with | [_, _, _], _ => rfl,
    defE_mk X G a21 l21 c21 k21 fun _ _ _ _ _ _ us hl => match us, hl with | [_, _, _], _ => rfl,
    defE_mk X G a22 l22 c22 k22 fun _ _ _ _ _ _ us hl => match us, hl with | [_, _, _, _, _], _ => rfl,
    defE_mk X G a23 l23 c23 k23 fun _ _ _ _ _ _ us hl => match us, hl with | [_, _, _], _ => rfl,
    defE_mk X G a24 l24 c24 k24 fun _ _ _ _ _ _ us hl => match us, hl with | [_, _, _], _ => rfl,
    defE_mk X G a25 l25 c25 k25 fun _ _ _ _ _ _ us hl => match us, hl with | [_, _], _ => rfl,
    defE_mk X G a26 l26 c26 k26 fun _ _ _ _ _ _ us hl => match us, hl with | [_, _, _, _], _ => rfl,
    defE_mk X G a27 l27 c27 k27 fun _ _ _ _ _ _ us hl => match us, hl with | [_, _], _ => rfl,
    defE_mk X G a28 l28 c28 k28 fun _ _ _ _ _ _ us hl => match us, hl with | [_], _ => rfl,
    defE_mk X G a29 l29 c29 k29 fun _ _ _ _ _ _ us hl => match us, hl with | [_, _], _ => rfl,
    defE_mk X G a30 l30 c30 k30 fun _ _ _ _ _ _ us hl => match us, hl with | [_], _ => rfl,
    defE_mk X G a31 l31 c31 k31 fun _ _ _ _ _ _ us hl => match us, hl with | [_, _], _ => rfl,
    defE_mk X G a32 l32 c32 k32 fun _ _ _ _ _ _ us hl => match us, hl with | [_, _, _], _ => rfl,
    defE_mk X G a33 l33 c33 k33 fun _ _ _ _ _ _ us hl => match us, hl with | [_, _], _ => rfl,
    defE_mk X G a34 l34 c34 k34 fun _ _ _ _ _ _ us hl => match us, hl with | [_], _ => rfl,
    defE_mk X G a35 l35 c35 k35 fun _ _ _ _ _ _ us hl => match us, hl with | [_, _], _ => rfl,
    defE_mk X G a36 l36 c36 k36 fun _ _ _ _ _ _ us hl => match us, hl with | [_, _], _ => rfl,
    defE_mk X G a37 l37 c37 k37 fun _ _ _ _ _ _ us hl => match us, hl with | [_, _, _], _ => rfl,
    PySem.W.mg_none_of X G z0,
    PySem.W.mg_none_of X G z1,
    PySem.W.mg_none_of X G z2,
    PySem.W.mg_none_of X G z3,
    PySem.W.mg_none_of X G z4,
    PySem.W.mg_none_of X G z5,
    PySem.W.mg_none_of X G z6,
    PySem.W.mg_none_of X G z7,
    PySem.W.mg_none_of X G z8,
    PySem.W.mg_none_of X G z9,
    PySem.W.mg_none_of X G z10,
    PySem.W.mg_none_of X G z11,
    PySem.W.mg_none_of X G z12,
    glI_mk X G g0,
    glI_mk X G g1,
    glI_mk X G g2,
    glI_mk X G g3,
    glI_mk X G g4,
    excE_mk X G xa0 xe0 xk0 xs0 xt0,
    excE_mk X G xa1 xe1 xk1 xs1 xt1,
    excE_mk X G xa2 xe2 xk2 xs2 xt2,
    excE_mk X G xa3 xe3 xk3 xs3 xt3,
    excE_mk X G xa4 xe4 xk4 xs4 xt4,
    excE_mk X G xa5 xe5 xk5 xs5 xt5,
    excE_mk X G xa6 xe6 xk6 xs6 xt6⟩
  exact ⟨_, fun s v => .of_eq rfl, fun base _ _ => law_impB law_true (fn_mk (fun_mk (st := st_law) l38 c38 k38) sc_law rfl (fun z => nomatch z) fun cdv A outer s H E hr => bd_law B hr)⟩
def ts0 (K : PySem.W.Frag) : List Bool := [decide (PySem.W.nsIn K mainGlobals "is_whole" = some (some (.ref (He.ga K "is_whole")))),
  decide (PySem.W.nsIn K mainGlobals "is_prime" = some (some (.ref (He.ga K "is_prime")))),
  decide (PySem.W.nsIn K mainGlobals "exponent" = some (some (.ref (He.ga K "exponent")))),
  decide (PySem.W.nsIn K mainGlobals "divisor" = some (some (.ref (He.ga K "divisor")))),
  decide (PySem.W.nsIn K mainGlobals "fraction" = some (some (.ref (He.ga K "fraction")))),
  decide (PySem.W.nsIn K mainGlobals "is_poly" = some (some (.ref (He.ga K "is_poly")))),
  decide (PySem.W.nsIn K mainGlobals "want_poly" = some (some (.ref (He.ga K "want_poly")))),
  decide (PySem.W.nsIn K mainGlobals "whole_worth" = some (some (.ref (He.ga K "whole_worth")))),
  decide (PySem.W.nsIn K mainGlobals "slope_of" = some (some (.ref (He.ga K "slope_of")))),
  decide (PySem.W.nsIn K mainGlobals "points_of" = some (some (.ref (He.ga K "points_of")))),
  decide (PySem.W.nsIn K mainGlobals "is_needless" = some (some (.ref (He.ga K "is_needless")))),
  decide (PySem.W.nsIn K mainGlobals "corners_of" = some (some (.ref (He.ga K "corners_of")))),
  decide (PySem.W.nsIn K mainGlobals "sizes_of" = some (some (.ref (He.ga K "sizes_of")))),
  decide (PySem.W.nsIn K mainGlobals "are_figures" = some (some (.ref (He.ga K "are_figures")))),
  decide (PySem.W.nsIn K mainGlobals "left_number" = some (some (.ref (He.ga K "left_number")))),
  decide (PySem.W.nsIn K mainGlobals "of_whole" = some (some (.ref (He.ga K "of_whole")))),
  decide (PySem.W.nsIn K mainGlobals "is_stem" = some (some (.ref (He.ga K "is_stem")))),
  decide (PySem.W.nsIn K mainGlobals "shifted" = some (some (.ref (He.ga K "shifted")))),
  decide (PySem.W.nsIn K mainGlobals "lifted" = some (some (.ref (He.ga K "lifted")))),
  decide (PySem.W.nsIn K mainGlobals "one_on" = some (some (.ref (He.ga K "one_on")))),
  decide (PySem.W.nsIn K mainGlobals "seen_from" = some (some (.ref (He.ga K "seen_from")))),
  decide (PySem.W.nsIn K mainGlobals "word_of" = some (some (.ref (He.ga K "word_of")))),
  decide (PySem.W.nsIn K mainGlobals "grown" = some (some (.ref (He.ga K "grown")))),
  decide (PySem.W.nsIn K mainGlobals "tree_of" = some (some (.ref (He.ga K "tree_of")))),
  decide (PySem.W.nsIn K mainGlobals "rise_of" = some (some (.ref (He.ga K "rise_of"))))]
def ts1 (K : PySem.W.Frag) : List Bool := [decide (PySem.W.nsIn K mainGlobals "undone" = some (some (.ref (He.ga K "undone")))),
  decide (PySem.W.nsIn K mainGlobals "root_of" = some (some (.ref (He.ga K "root_of")))),
  decide (PySem.W.nsIn K mainGlobals "_law_cell_at" = some (some (.ref (He.ga K "_law_cell_at")))),
  decide (PySem.W.nsIn K mainGlobals "_law_prime" = some (some (.ref (He.ga K "_law_prime")))),
  decide (PySem.W.nsIn K mainGlobals "_law_poly" = some (some (.ref (He.ga K "_law_poly")))),
  decide (PySem.W.nsIn K mainGlobals "_law_whole" = some (some (.ref (He.ga K "_law_whole")))),
  decide (PySem.W.nsIn K mainGlobals "_law_is_left" = some (some (.ref (He.ga K "_law_is_left")))),
  decide (PySem.W.nsIn K mainGlobals "_law_planted" = some (some (.ref (He.ga K "_law_planted")))),
  decide (PySem.W.nsIn K mainGlobals "_law_within" = some (some (.ref (He.ga K "_law_within")))),
  decide (PySem.W.nsIn K mainGlobals "_law_box" = some (some (.ref (He.ga K "_law_box")))),
  decide (PySem.W.nsIn K mainGlobals "_law_take" = some (some (.ref (He.ga K "_law_take")))),
  decide (PySem.W.nsIn K mainGlobals "_law_any_number" = some (some (.ref (He.ga K "_law_any_number")))),
  decide (PySem.W.nsIn K mainGlobals "_law_any_poly" = some (some (.ref (He.ga K "_law_any_poly")))),
  decide (PySem.W.nsIn K mainGlobals "law" = some (some (.ref (He.ga K "law")))),
  decide (PySem.W.nsIn K mainGlobals "abs" = some none),
  decide (PySem.W.nsIn K mainGlobals "all" = some none),
  decide (PySem.W.nsIn K mainGlobals "bool" = some none),
  decide (PySem.W.nsIn K mainGlobals "divmod" = some none),
  decide (PySem.W.nsIn K mainGlobals "enumerate" = some none),
  decide (PySem.W.nsIn K mainGlobals "int" = some none),
  decide (PySem.W.nsIn K mainGlobals "isinstance" = some none),
  decide (PySem.W.nsIn K mainGlobals "len" = some none),
  decide (PySem.W.nsIn K mainGlobals "list" = some none),
  decide (PySem.W.nsIn K mainGlobals "min" = some none),
  decide (PySem.W.nsIn K mainGlobals "range" = some none)]
def ts2 (K : PySem.W.Frag) : List Bool := [decide (PySem.W.nsIn K mainGlobals "reversed" = some none),
  decide (PySem.W.nsIn K mainGlobals "tuple" = some none),
  PH.intB K "MOST_DEPTH" 12,
  PH.intB K "MOST_END" 400,
  PH.intB K "MOST_FIGURES" 12,
  PH.intB K "MOST_NUMBERS" 9,
  PH.intB K "MOST_PRIME" 97,
  decide (PySem.W.nsIn K mainGlobals "NoDepth" = some (some (.ref (He.ga K "NoDepth")))),
  decide (PySem.W.excIn K (He.ga K "NoDepth") [.type "ValueError", .type "Exception", .type "BaseException", .type "object"] "ValueError.__new__" = true),
  decide (PySem.W.keepIn K (.ref (He.ga K "NoDepth")) = true),
  decide (PySem.W.subIn K (.ref (He.ga K "NoDepth")) (.type "BaseException") = some true),
  decide (PySem.W.typeIn K (.ref (He.ga K "NoDepth")) = some (.type "type")),
  decide (PySem.W.nsIn K mainGlobals "NoFigures" = some (some (.ref (He.ga K "NoFigures")))),
  decide (PySem.W.excIn K (He.ga K "NoFigures") [.type "ValueError", .type "Exception", .type "BaseException", .type "object"] "ValueError.__new__" = true),
  decide (PySem.W.keepIn K (.ref (He.ga K "NoFigures")) = true),
  decide (PySem.W.subIn K (.ref (He.ga K "NoFigures")) (.type "BaseException") = some true),
  decide (PySem.W.typeIn K (.ref (He.ga K "NoFigures")) = some (.type "type")),
  decide (PySem.W.nsIn K mainGlobals "NoFraction" = some (some (.ref (He.ga K "NoFraction")))),
  decide (PySem.W.excIn K (He.ga K "NoFraction") [.type "ValueError", .type "Exception", .type "BaseException", .type "object"] "ValueError.__new__" = true),
  decide (PySem.W.keepIn K (.ref (He.ga K "NoFraction")) = true),
  decide (PySem.W.subIn K (.ref (He.ga K "NoFraction")) (.type "BaseException") = some true),
  decide (PySem.W.typeIn K (.ref (He.ga K "NoFraction")) = some (.type "type")),
  decide (PySem.W.nsIn K mainGlobals "NoPlace" = some (some (.ref (He.ga K "NoPlace")))),
  decide (PySem.W.excIn K (He.ga K "NoPlace") [.type "ValueError", .type "Exception", .type "BaseException", .type "object"] "ValueError.__new__" = true),
  decide (PySem.W.keepIn K (.ref (He.ga K "NoPlace")) = true)]
def ts3 (K : PySem.W.Frag) : List Bool := [decide (PySem.W.subIn K (.ref (He.ga K "NoPlace")) (.type "BaseException") = some true),
  decide (PySem.W.typeIn K (.ref (He.ga K "NoPlace")) = some (.type "type")),
  decide (PySem.W.nsIn K mainGlobals "NoPolynomial" = some (some (.ref (He.ga K "NoPolynomial")))),
  decide (PySem.W.excIn K (He.ga K "NoPolynomial") [.type "ValueError", .type "Exception", .type "BaseException", .type "object"] "ValueError.__new__" = true),
  decide (PySem.W.keepIn K (.ref (He.ga K "NoPolynomial")) = true),
  decide (PySem.W.subIn K (.ref (He.ga K "NoPolynomial")) (.type "BaseException") = some true),
  decide (PySem.W.typeIn K (.ref (He.ga K "NoPolynomial")) = some (.type "type")),
  decide (PySem.W.nsIn K mainGlobals "NoPrime" = some (some (.ref (He.ga K "NoPrime")))),
  decide (PySem.W.excIn K (He.ga K "NoPrime") [.type "ValueError", .type "Exception", .type "BaseException", .type "object"] "ValueError.__new__" = true),
  decide (PySem.W.keepIn K (.ref (He.ga K "NoPrime")) = true),
  decide (PySem.W.subIn K (.ref (He.ga K "NoPrime")) (.type "BaseException") = some true),
  decide (PySem.W.typeIn K (.ref (He.ga K "NoPrime")) = some (.type "type")),
  decide (PySem.W.nsIn K mainGlobals "NoRoot" = some (some (.ref (He.ga K "NoRoot")))),
  decide (PySem.W.excIn K (He.ga K "NoRoot") [.type "ValueError", .type "Exception", .type "BaseException", .type "object"] "ValueError.__new__" = true),
  decide (PySem.W.keepIn K (.ref (He.ga K "NoRoot")) = true),
  decide (PySem.W.subIn K (.ref (He.ga K "NoRoot")) (.type "BaseException") = some true),
  decide (PySem.W.typeIn K (.ref (He.ga K "NoRoot")) = some (.type "type"))]
def tsA (K : PySem.W.Frag) : List (List Bool) := [ts0 K, ts1 K, ts2 K, ts3 K]
def fn0 : List He.DefD := [⟨("is_whole", none), "is_whole", "is_whole", defArgs st_is_whole, defBody st_is_whole, defScope st_is_whole, [], []⟩,
  ⟨("is_prime", none), "is_prime", "is_prime", defArgs st_is_prime, defBody st_is_prime, defScope st_is_prime, [], []⟩,
  ⟨("exponent", none), "exponent", "exponent", defArgs st_exponent, defBody st_exponent, defScope st_exponent, [], []⟩,
  ⟨("divisor", none), "divisor", "divisor", defArgs st_divisor, defBody st_divisor, defScope st_divisor, [], []⟩,
  ⟨("fraction", none), "fraction", "fraction", defArgs st_fraction, defBody st_fraction, defScope st_fraction, [.int 1], []⟩,
  ⟨("is_poly", none), "is_poly", "is_poly", defArgs st_is_poly, defBody st_is_poly, defScope st_is_poly, [], []⟩,
  ⟨("want_poly", none), "want_poly", "want_poly", defArgs st_want_poly, defBody st_want_poly, defScope st_want_poly, [], []⟩,
  ⟨("whole_worth", none), "whole_worth", "whole_worth", defArgs st_whole_worth, defBody st_whole_worth, defScope st_whole_worth, [], []⟩,
  ⟨("slope_of", none), "slope_of", "slope_of", defArgs st_slope_of, defBody st_slope_of, defScope st_slope_of, [], []⟩,
  ⟨("points_of", none), "points_of", "points_of", defArgs st_points_of, defBody st_points_of, defScope st_points_of, [], []⟩,
  ⟨("is_needless", none), "is_needless", "is_needless", defArgs st_is_needless, defBody st_is_needless, defScope st_is_needless, [], []⟩,
  ⟨("corners_of", none), "corners_of", "corners_of", defArgs st_corners_of, defBody st_corners_of, defScope st_corners_of, [], []⟩,
  ⟨("sizes_of", none), "sizes_of", "sizes_of", defArgs st_sizes_of, defBody st_sizes_of, defScope st_sizes_of, [], []⟩,
  ⟨("are_figures", none), "are_figures", "are_figures", defArgs st_are_figures, defBody st_are_figures, defScope st_are_figures, [], []⟩,
  ⟨("left_number", none), "left_number", "left_number", defArgs st_left_number, defBody st_left_number, defScope st_left_number, [], []⟩,
  ⟨("of_whole", none), "of_whole", "of_whole", defArgs st_of_whole, defBody st_of_whole, defScope st_of_whole, [], []⟩,
  ⟨("is_stem", none), "is_stem", "is_stem", defArgs st_is_stem, defBody st_is_stem, defScope st_is_stem, [], []⟩,
  ⟨("shifted", none), "shifted", "shifted", defArgs st_shifted, defBody st_shifted, defScope st_shifted, [], []⟩,
  ⟨("lifted", none), "lifted", "lifted", defArgs st_lifted, defBody st_lifted, defScope st_lifted, [], []⟩,
  ⟨("one_on", none), "one_on", "one_on", defArgs st_one_on, defBody st_one_on, defScope st_one_on, [], []⟩,
  ⟨("seen_from", none), "seen_from", "seen_from", defArgs st_seen_from, defBody st_seen_from, defScope st_seen_from, [], []⟩,
  ⟨("word_of", none), "word_of", "word_of", defArgs st_word_of, defBody st_word_of, defScope st_word_of, [], []⟩,
  ⟨("grown", none), "grown", "grown", defArgs st_grown, defBody st_grown, defScope st_grown, [], []⟩,
  ⟨("tree_of", none), "tree_of", "tree_of", defArgs st_tree_of, defBody st_tree_of, defScope st_tree_of, [], []⟩,
  ⟨("rise_of", none), "rise_of", "rise_of", defArgs st_rise_of, defBody st_rise_of, defScope st_rise_of, [], []⟩]
def fn1 : List He.DefD := [⟨("undone", none), "undone", "undone", defArgs st_undone, defBody st_undone, defScope st_undone, [], []⟩,
  ⟨("root_of", none), "root_of", "root_of", defArgs st_root_of, defBody st_root_of, defScope st_root_of, [], []⟩,
  ⟨("_law_cell_at", none), "_law_cell_at", "_law_cell_at", defArgs st__law_cell_at, defBody st__law_cell_at, defScope st__law_cell_at, [], []⟩,
  ⟨("_law_prime", none), "_law_prime", "_law_prime", defArgs st__law_prime, defBody st__law_prime, defScope st__law_prime, [], []⟩,
  ⟨("_law_poly", none), "_law_poly", "_law_poly", defArgs st__law_poly, defBody st__law_poly, defScope st__law_poly, [], []⟩,
  ⟨("_law_whole", none), "_law_whole", "_law_whole", defArgs st__law_whole, defBody st__law_whole, defScope st__law_whole, [], []⟩,
  ⟨("_law_is_left", none), "_law_is_left", "_law_is_left", defArgs st__law_is_left, defBody st__law_is_left, defScope st__law_is_left, [], []⟩,
  ⟨("_law_planted", none), "_law_planted", "_law_planted", defArgs st__law_planted, defBody st__law_planted, defScope st__law_planted, [], []⟩,
  ⟨("_law_within", none), "_law_within", "_law_within", defArgs st__law_within, defBody st__law_within, defScope st__law_within, [], []⟩,
  ⟨("_law_box", none), "_law_box", "_law_box", defArgs st__law_box, defBody st__law_box, defScope st__law_box, [], []⟩,
  ⟨("_law_take", none), "_law_take", "_law_take", defArgs st__law_take, defBody st__law_take, defScope st__law_take, [], []⟩,
  ⟨("_law_any_number", none), "_law_any_number", "_law_any_number", defArgs st__law_any_number, defBody st__law_any_number, defScope st__law_any_number, [], []⟩,
  ⟨("_law_any_poly", none), "_law_any_poly", "_law_any_poly", defArgs st__law_any_poly, defBody st__law_any_poly, defScope st__law_any_poly, [], []⟩,
  ⟨("law", none), "law", "law", defArgs st_law, defBody st_law, defScope st_law, [], []⟩]
def fnA : List He.DefD := fn0 ++ fn1
theorem facts {l : PySem.W.OpenLaw} {w : World} {K : PySem.W.Frag} {h : Heap} {mg : Str → Option Value} {fa : Addr} (X : K.In h) (G : h.Ns mainGlobals mg) (hfa : mg "law" = some (.ref fa)) (c : PH.SaysT tsA fnA K)
    : ∃ fd : FuncData, (∀ (s : Shared) (v : Value), BindsTo s fd ⟨[v], []⟩ [("_law_script", v)]) ∧ ∀ base : Heap, K.In base → base.Ns mainGlobals mg → FnOk l.prog w K mg base (L2N.CX l.prog w) 20 fa fd ["_law_script"] (spLaw K) := by
  have h0 := c.chunk (l := ts0 K) 0 rfl
  have h1 := c.chunk (l := ts1 K) 1 rfl
  have h2 := c.chunk (l := ts2 K) 2 rfl
  have h3 := c.chunk (l := ts3 K) 3 rfl
  obtain ⟨oc0, od0, kV0, dc0, pm0, an0, cd0, ct0, sl0, l0, c0, k0⟩ := PH.lok (x := "is_whole") (q := "is_whole") (st := st_is_whole) (f := He.ga K "is_whole") (c.def_ 0 rfl)
  obtain ⟨oc1, od1, kV1, dc1, pm1, an1, cd1, ct1, sl1, l1, c1, k1⟩ := PH.lok (x := "is_prime") (q := "is_prime") (st := st_is_prime) (f := He.ga K "is_prime") (c.def_ 1 rfl)
  obtain ⟨oc2, od2, kV2, dc2, pm2, an2, cd2, ct2, sl2, l2, c2, k2⟩ := PH.lok (x := "exponent") (q := "exponent") (st := st_exponent) (f := He.ga K "exponent") (c.def_ 2 rfl)
  obtain ⟨oc3, od3, kV3, dc3, pm3, an3, cd3, ct3, sl3, l3, c3, k3⟩ := PH.lok (x := "divisor") (q := "divisor") (st := st_divisor) (f := He.ga K "divisor") (c.def_ 3 rfl)
  obtain ⟨oc4, od4, T4, kV4, dc4, pm4, an4, cd4, ct4, sl4, tc4, td4, tt4, tm4, tl4, l4, c4, k4, lt4⟩ := PH.lokD (x := "fraction") (q := "fraction") (st := st_fraction) (f := He.ga K "fraction") (c.def_ 4 rfl)
  obtain ⟨oc5, od5, kV5, dc5, pm5, an5, cd5, ct5, sl5, l5, c5, k5⟩ := PH.lok (x := "is_poly") (q := "is_poly") (st := st_is_poly) (f := He.ga K "is_poly") (c.def_ 5 rfl)
  obtain ⟨oc6, od6, kV6, dc6, pm6, an6, cd6, ct6, sl6, l6, c6, k6⟩ := PH.lok (x := "want_poly") (q := "want_poly") (st := st_want_poly) (f := He.ga K "want_poly") (c.def_ 6 rfl)
  obtain ⟨oc7, od7, kV7, dc7, pm7, an7, cd7, ct7, sl7, l7, c7, k7⟩ := PH.lok (x := "whole_worth") (q := "whole_worth") (st := st_whole_worth) (f := He.ga K "whole_worth") (c.def_ 7 rfl)
  obtain ⟨oc8, od8, kV8, dc8, pm8, an8, cd8, ct8, sl8, l8, c8, k8⟩ := PH.lok (x := "slope_of") (q := "slope_of") (st := st_slope_of) (f := He.ga K "slope_of") (c.def_ 8 rfl)
  obtain ⟨oc9, od9, kV9, dc9, pm9, an9, cd9, ct9, sl9, l9, c9, k9⟩ := PH.lok (x := "points_of") (q := "points_of") (st := st_points_of) (f := He.ga K "points_of") (c.def_ 9 rfl)
  obtain ⟨oc10, od10, kV10, dc10, pm10, an10, cd10, ct10, sl10, l10, c10, k10⟩ := PH.lok (x := "is_needless") (q := "is_needless") (st := st_is_needless) (f := He.ga K "is_needless") (c.def_ 10 rfl)
  obtain ⟨oc11, od11, kV11, dc11, pm11, an11, cd11, ct11, sl11, l11, c11, k11⟩ := PH.lok (x := "corners_of") (q := "corners_of") (st := st_corners_of) (f := He.ga K "corners_of") (c.def_ 11 rfl)
  obtain ⟨oc12, od12, kV12, dc12, pm12, an12, cd12, ct12, sl12, l12, c12, k12⟩ := PH.lok (x := "sizes_of") (q := "sizes_of") (st := st_sizes_of) (f := He.ga K "sizes_of") (c.def_ 12 rfl)
  obtain ⟨oc13, od13, kV13, dc13, pm13, an13, cd13, ct13, sl13, l13, c13, k13⟩ := PH.lok (x := "are_figures") (q := "are_figures") (st := st_are_figures) (f := He.ga K "are_figures") (c.def_ 13 rfl)
  obtain ⟨oc14, od14, kV14, dc14, pm14, an14, cd14, ct14, sl14, l14, c14, k14⟩ := PH.lok (x := "left_number") (q := "left_number") (st := st_left_number) (f := He.ga K "left_number") (c.def_ 14 rfl)
  obtain ⟨oc15, od15, kV15, dc15, pm15, an15, cd15, ct15, sl15, l15, c15, k15⟩ := PH.lok (x := "of_whole") (q := "of_whole") (st := st_of_whole) (f := He.ga K "of_whole") (c.def_ 15 rfl)
  obtain ⟨oc16, od16, kV16, dc16, pm16, an16, cd16, ct16, sl16, l16, c16, k16⟩ := PH.lok (x := "is_stem") (q := "is_stem") (st := st_is_stem) (f := He.ga K "is_stem") (c.def_ 16 rfl)
  obtain ⟨oc17, od17, kV17, dc17, pm17, an17, cd17, ct17, sl17, l17, c17, k17⟩ := PH.lok (x := "shifted") (q := "shifted") (st := st_shifted) (f := He.ga K "shifted") (c.def_ 17 rfl)
  obtain ⟨oc18, od18, kV18, dc18, pm18, an18, cd18, ct18, sl18, l18, c18, k18⟩ := PH.lok (x := "lifted") (q := "lifted") (st := st_lifted) (f := He.ga K "lifted") (c.def_ 18 rfl)
  obtain ⟨oc19, od19, kV19, dc19, pm19, an19, cd19, ct19, sl19, l19, c19, k19⟩ := PH.lok (x := "one_on") (q := "one_on") (st := st_one_on) (f := He.ga K "one_on") (c.def_ 19 rfl)
  obtain ⟨oc20, od20, kV20, dc20, pm20, an20, cd20, ct20, sl20, l20, c20, k20⟩ := PH.lok (x := "seen_from") (q := "seen_from") (st := st_seen_from) (f := He.ga K "seen_from") (c.def_ 20 rfl)
  obtain ⟨oc21, od21, kV21, dc21, pm21, an21, cd21, ct21, sl21, l21, c21, k21⟩ := PH.lok (x := "word_of") (q := "word_of") (st := st_word_of) (f := He.ga K "word_of") (c.def_ 21 rfl)
  obtain ⟨oc22, od22, kV22, dc22, pm22, an22, cd22, ct22, sl22, l22, c22, k22⟩ := PH.lok (x := "grown") (q := "grown") (st := st_grown) (f := He.ga K "grown") (c.def_ 22 rfl)
  obtain ⟨oc23, od23, kV23, dc23, pm23, an23, cd23, ct23, sl23, l23, c23, k23⟩ := PH.lok (x := "tree_of") (q := "tree_of") (st := st_tree_of) (f := He.ga K "tree_of") (c.def_ 23 rfl)
  obtain ⟨oc24, od24, kV24, dc24, pm24, an24, cd24, ct24, sl24, l24, c24, k24⟩ := PH.lok (x := "rise_of") (q := "rise_of") (st := st_rise_of) (f := He.ga K "rise_of") (c.def_ 24 rfl)
  obtain ⟨oc25, od25, kV25, dc25, pm25, an25, cd25, ct25, sl25, l25, c25, k25⟩ := PH.lok (x := "undone") (q := "undone") (st := st_undone) (f := He.ga K "undone") (c.def_ 25 rfl)
  obtain ⟨oc26, od26, kV26, dc26, pm26, an26, cd26, ct26, sl26, l26, c26, k26⟩ := PH.lok (x := "root_of") (q := "root_of") (st := st_root_of) (f := He.ga K "root_of") (c.def_ 26 rfl)
  obtain ⟨oc27, od27, kV27, dc27, pm27, an27, cd27, ct27, sl27, l27, c27, k27⟩ := PH.lok (x := "_law_cell_at") (q := "_law_cell_at") (st := st__law_cell_at) (f := He.ga K "_law_cell_at") (c.def_ 27 rfl)
  obtain ⟨oc28, od28, kV28, dc28, pm28, an28, cd28, ct28, sl28, l28, c28, k28⟩ := PH.lok (x := "_law_prime") (q := "_law_prime") (st := st__law_prime) (f := He.ga K "_law_prime") (c.def_ 28 rfl)
  obtain ⟨oc29, od29, kV29, dc29, pm29, an29, cd29, ct29, sl29, l29, c29, k29⟩ := PH.lok (x := "_law_poly") (q := "_law_poly") (st := st__law_poly) (f := He.ga K "_law_poly") (c.def_ 29 rfl)
  obtain ⟨oc30, od30, kV30, dc30, pm30, an30, cd30, ct30, sl30, l30, c30, k30⟩ := PH.lok (x := "_law_whole") (q := "_law_whole") (st := st__law_whole) (f := He.ga K "_law_whole") (c.def_ 30 rfl)
  obtain ⟨oc31, od31, kV31, dc31, pm31, an31, cd31, ct31, sl31, l31, c31, k31⟩ := PH.lok (x := "_law_is_left") (q := "_law_is_left") (st := st__law_is_left) (f := He.ga K "_law_is_left") (c.def_ 31 rfl)
  obtain ⟨oc32, od32, kV32, dc32, pm32, an32, cd32, ct32, sl32, l32, c32, k32⟩ := PH.lok (x := "_law_planted") (q := "_law_planted") (st := st__law_planted) (f := He.ga K "_law_planted") (c.def_ 32 rfl)
  obtain ⟨oc33, od33, kV33, dc33, pm33, an33, cd33, ct33, sl33, l33, c33, k33⟩ := PH.lok (x := "_law_within") (q := "_law_within") (st := st__law_within) (f := He.ga K "_law_within") (c.def_ 33 rfl)
  obtain ⟨oc34, od34, kV34, dc34, pm34, an34, cd34, ct34, sl34, l34, c34, k34⟩ := PH.lok (x := "_law_box") (q := "_law_box") (st := st__law_box) (f := He.ga K "_law_box") (c.def_ 34 rfl)
  obtain ⟨oc35, od35, kV35, dc35, pm35, an35, cd35, ct35, sl35, l35, c35, k35⟩ := PH.lok (x := "_law_take") (q := "_law_take") (st := st__law_take) (f := He.ga K "_law_take") (c.def_ 35 rfl)
  obtain ⟨oc36, od36, kV36, dc36, pm36, an36, cd36, ct36, sl36, l36, c36, k36⟩ := PH.lok (x := "_law_any_number") (q := "_law_any_number") (st := st__law_any_number) (f := He.ga K "_law_any_number") (c.def_ 36 rfl)
  obtain ⟨oc37, od37, kV37, dc37, pm37, an37, cd37, ct37, sl37, l37, c37, k37⟩ := PH.lok (x := "_law_any_poly") (q := "_law_any_poly") (st := st__law_any_poly) (f := He.ga K "_law_any_poly") (c.def_ 37 rfl)
  obtain ⟨oc38, od38, kV38, dc38, pm38, an38, cd38, ct38, sl38, l38, c38, k38⟩ := PH.lok (x := "law") (q := "law") (st := st_law) (f := He.ga K "law") (c.def_ 38 rfl)
  obtain ⟨t0, g0⟩ := PH.intB_ok (PH.fact h2 2 rfl)
  obtain ⟨t1, g1⟩ := PH.intB_ok (PH.fact h2 3 rfl)
  obtain ⟨t2, g2⟩ := PH.intB_ok (PH.fact h2 4 rfl)
  obtain ⟨t3, g3⟩ := PH.intB_ok (PH.fact h2 5 rfl)
  obtain ⟨t4, g4⟩ := PH.intB_ok (PH.fact h2 6 rfl)
  exact all_mk (f0 := (He.ga K "is_whole")) (f1 := (He.ga K "is_prime")) (f2 := (He.ga K "exponent")) (f3 := (He.ga K "divisor")) (f4 := (He.ga K "fraction")) (f5 := (He.ga K "is_poly")) (f6 := (He.ga K "want_poly")) (f7 := (He.ga K "whole_worth")) (f8 := (He.ga K "slope_of")) (f9 := (He.ga K "points_of")) (f10 := (He.ga K "is_needless")) (f11 := (He.ga K "corners_of")) (f12 := (He.ga K "sizes_of")) (f13 := (He.ga K "are_figures")) (f14 := (He.ga K "left_number")) (f15 := (He.ga K "of_whole")) (f16 := (He.ga K "is_stem")) (f17 := (He.ga K "shifted")) (f18 := (He.ga K "lifted")) (f19 := (He.ga K "one_on")) (f20 := (He.ga K "seen_from")) (f21 := (He.ga K "word_of")) (f22 := (He.ga K "grown")) (f23 := (He.ga K "tree_of")) (f24 := (He.ga K "rise_of")) (f25 := (He.ga K "undone")) (f26 := (He.ga K "root_of")) (f27 := (He.ga K "_law_cell_at")) (f28 := (He.ga K "_law_prime")) (f29 := (He.ga K "_law_poly")) (f30 := (He.ga K "_law_whole")) (f31 := (He.ga K "_law_is_left")) (f32 := (He.ga K "_law_planted")) (f33 := (He.ga K "_law_within")) (f34 := (He.ga K "_law_box")) (f35 := (He.ga K "_law_take")) (f36 := (He.ga K "_law_any_number")) (f37 := (He.ga K "_law_any_poly")) (f38 := (He.ga K "law")) (C0 := (He.ga K "NoDepth")) (C1 := (He.ga K "NoFigures")) (C2 := (He.ga K "NoFraction")) (C3 := (He.ga K "NoPlace")) (C4 := (He.ga K "NoPolynomial")) (C5 := (He.ga K "NoPrime")) (C6 := (He.ga K "NoRoot")) X G hfa (of_decide_eq_true (PH.fact h0 0 rfl)) l0 c0 k0 (of_decide_eq_true (PH.fact h0 1 rfl)) l1 c1 k1 (of_decide_eq_true (PH.fact h0 2 rfl)) l2 c2 k2 (of_decide_eq_true (PH.fact h0 3 rfl)) l3 c3 k3 (of_decide_eq_true (PH.fact h0 4 rfl)) l4 c4 k4 lt4 (of_decide_eq_true (PH.fact h0 5 rfl)) l5 c5 k5 (of_decide_eq_true (PH.fact h0 6 rfl)) l6 c6 k6 (of_decide_eq_true (PH.fact h0 7 rfl)) l7 c7 k7 (of_decide_eq_true (PH.fact h0 8 rfl)) l8 c8 k8 (of_decide_eq_true (PH.fact h0 9 rfl)) l9 c9 k9 (of_decide_eq_true (PH.fact h0 10 rfl)) l10 c10 k10 (of_decide_eq_true (PH.fact h0 11 rfl)) l11 c11 k11 (of_decide_eq_true (PH.fact h0 12 rfl)) l12 c12 k12 (of_decide_eq_true (PH.fact h0 13 rfl)) l13 c13 k13 (of_decide_eq_true (PH.fact h0 14 rfl)) l14 c14 k14 (of_decide_eq_true (PH.fact h0 15 rfl)) l15 c15 k15 (of_decide_eq_true (PH.fact h0 16 rfl)) l16 c16 k16 (of_decide_eq_true (PH.fact h0 17 rfl)) l17 c17 k17 (of_decide_eq_true (PH.fact h0 18 rfl)) l18 c18 k18 (of_decide_eq_true (PH.fact h0 19 rfl)) l19 c19 k19 (of_decide_eq_true (PH.fact h0 20 rfl)) l20 c20 k20 (of_decide_eq_true (PH.fact h0 21 rfl)) l21 c21 k21 (of_decide_eq_true (PH.fact h0 22 rfl)) l22 c22 k22 (of_decide_eq_true (PH.fact h0 23 rfl)) l23 c23 k23 (of_decide_eq_true (PH.fact h0 24 rfl)) l24 c24 k24 (of_decide_eq_true (PH.fact h1 0 rfl)) l25 c25 k25 (of_decide_eq_true (PH.fact h1 1 rfl)) l26 c26 k26 (of_decide_eq_true (PH.fact h1 2 rfl)) l27 c27 k27 (of_decide_eq_true (PH.fact h1 3 rfl)) l28 c28 k28 (of_decide_eq_true (PH.fact h1 4 rfl)) l29 c29 k29 (of_decide_eq_true (PH.fact h1 5 rfl)) l30 c30 k30 (of_decide_eq_true (PH.fact h1 6 rfl)) l31 c31 k31 (of_decide_eq_true (PH.fact h1 7 rfl)) l32 c32 k32 (of_decide_eq_true (PH.fact h1 8 rfl)) l33 c33 k33 (of_decide_eq_true (PH.fact h1 9 rfl)) l34 c34 k34 (of_decide_eq_true (PH.fact h1 10 rfl)) l35 c35 k35 (of_decide_eq_true (PH.fact h1 11 rfl)) l36 c36 k36 (of_decide_eq_true (PH.fact h1 12 rfl)) l37 c37 k37 (of_decide_eq_true (PH.fact h1 13 rfl)) l38 c38 k38 (of_decide_eq_true (PH.fact h1 14 rfl)) (of_decide_eq_true (PH.fact h1 15 rfl)) (of_decide_eq_true (PH.fact h1 16 rfl)) (of_decide_eq_true (PH.fact h1 17 rfl)) (of_decide_eq_true (PH.fact h1 18 rfl)) (of_decide_eq_true (PH.fact h1 19 rfl)) (of_decide_eq_true (PH.fact h1 20 rfl)) (of_decide_eq_true (PH.fact h1 21 rfl)) (of_decide_eq_true (PH.fact h1 22 rfl)) (of_decide_eq_true (PH.fact h1 23 rfl)) (of_decide_eq_true (PH.fact h1 24 rfl)) (of_decide_eq_true (PH.fact h2 0 rfl)) (of_decide_eq_true (PH.fact h2 1 rfl)) g0 g1 g2 g3 g4 (of_decide_eq_true (PH.fact h2 7 rfl)) (of_decide_eq_true (PH.fact h2 8 rfl)) (of_decide_eq_true (PH.fact h2 9 rfl)) (of_decide_eq_true (PH.fact h2 10 rfl)) (of_decide_eq_true (PH.fact h2 11 rfl)) (of_decide_eq_true (PH.fact h2 12 rfl)) (of_decide_eq_true (PH.fact h2 13 rfl)) (of_decide_eq_true (PH.fact h2 14 rfl)) (of_decide_eq_true (PH.fact h2 15 rfl)) (of_decide_eq_true (PH.fact h2 16 rfl)) (of_decide_eq_true (PH.fact h2 17 rfl)) (of_decide_eq_true (PH.fact h2 18 rfl)) (of_decide_eq_true (PH.fact h2 19 rfl)) (of_decide_eq_true (PH.fact h2 20 rfl)) (of_decide_eq_true (PH.fact h2 21 rfl)) (of_decide_eq_true (PH.fact h2 22 rfl)) (of_decide_eq_true (PH.fact h2 23 rfl)) (of_decide_eq_true (PH.fact h2 24 rfl)) (of_decide_eq_true (PH.fact h3 0 rfl)) (of_decide_eq_true (PH.fact h3 1 rfl)) (of_decide_eq_true (PH.fact h3 2 rfl)) (of_decide_eq_true (PH.fact h3 3 rfl)) (of_decide_eq_true (PH.fact h3 4 rfl)) (of_decide_eq_true (PH.fact h3 5 rfl)) (of_decide_eq_true (PH.fact h3 6 rfl)) (of_decide_eq_true (PH.fact h3 7 rfl)) (of_decide_eq_true (PH.fact h3 8 rfl)) (of_decide_eq_true (PH.fact h3 9 rfl)) (of_decide_eq_true (PH.fact h3 10 rfl)) (of_decide_eq_true (PH.fact h3 11 rfl)) (of_decide_eq_true (PH.fact h3 12 rfl)) (of_decide_eq_true (PH.fact h3 13 rfl)) (of_decide_eq_true (PH.fact h3 14 rfl)) (of_decide_eq_true (PH.fact h3 15 rfl)) (of_decide_eq_true (PH.fact h3 16 rfl))
def lo0 : List Str := ["LeftError", "NoPrime", "NoFraction", "NoPlace", "NoFigures", "NoPolynomial", "NoDepth", "NoRoot", "MOST_PRIME", "is_whole", "is_prime", "exponent", "divisor", "fraction", "MOST_NUMBERS", "is_poly", "want_poly", "whole_worth", "slope_of", "points_of", "is_needless", "corners_of", "sizes_of", "are_figures", "left_number", "of_whole", "MOST_FIGURES", "is_stem", "shifted", "lifted"]
def lo1 : List Str := ["one_on", "seen_from", "MOST_DEPTH", "MOST_END", "word_of", "grown", "tree_of", "rise_of", "undone", "root_of", "_law_cell_at", "_law_prime", "_law_poly", "_law_whole", "_law_is_left", "_law_planted", "_law_within", "_law_box", "_law_take", "_law_any_number", "_law_any_poly"]
def loA : List Str := lo0 ++ lo1
abbrev RR : PySem.W.OpenRow := PySem.W.OpenLaw.row PySem.Challenge.rw_leftnumbers_k75_whole_roots_of_the_tree
theorem run (w : World) : HandSHeadRun.RunEq RR (PySem.W.view RR.prog [61]) (PH.hookT 1 tsA fnA) (PH.obT 1 tsA fnA) 20000 loA w := by
  intro os
  kernel_rfl
end K75
open PySem PySem.W PySem.Calls PyProof.Rows
set_option maxHeartbeats 0 in
theorem PySem.Challenge.cw_leftnumbers_k75_whole_roots_of_the_tree_holds : PySem.Challenge.rw_leftnumbers_k75_whole_roots_of_the_tree.Holds := by
  w_on; o_law
  refine HandSHeadRun.head_any (r := OpenLaw.row PySem.Challenge.rw_leftnumbers_k75_whole_roots_of_the_tree) (q := view (OpenLaw.row PySem.Challenge.rw_leftnumbers_k75_whole_roots_of_the_tree).prog [61]) (H := PH.hookT 1 K75.tsA K75.fnA) (ob := PH.obT 1 K75.tsA K75.fnA) (M := 20000) (loose := K75.loA) (d := HandSHeadRun.topDef (OpenLaw.row PySem.Challenge.rw_leftnumbers_k75_whole_roots_of_the_tree).prog 61) (kwd := []) (PH.obT_eq (n := 1)) (by kernel_rfl) (fun s => by kernel_rfl) K75.run (by kernel_rfl) (by kernel_rfl) (by kernel_rfl) (by rfl) (by first | assumption | decide +kernel) (by decide +kernel) ⟨rfl, rfl, rfl, rfl, rfl, by decide +kernel⟩ ?hw ?hc
  case hw => w_witness2
  case hc =>
    refine PH.walk_ofEB (l := PySem.Challenge.rw_leftnumbers_k75_whole_roots_of_the_tree) (n := 63) (k := 20) (x := "_law_script") (CX := fun w => L2N.CX PySem.Challenge.rw_leftnumbers_k75_whole_roots_of_the_tree.prog w) rfl (by decide) (by kernel_rfl) ⟨rfl, by decide, by decide⟩ ?F (fun _ _ _ _ _ h => PL.cx_none h)
    intro w mg fa h Y G hmg0
    obtain ⟨K, KX, c⟩ := Y
    have hmg : mg ("law" : PySem.Str) = some (.ref fa) := by
      have e : (HandSHeadRun.topDef (OpenLaw.row PySem.Challenge.rw_leftnumbers_k75_whole_roots_of_the_tree).prog 61).name = ("law" : PySem.Str) := by kernel_rfl
      rw [← e]
      exact hmg0
    obtain ⟨fd, hb, hF⟩ := K75.facts (l := PySem.Challenge.rw_leftnumbers_k75_whole_roots_of_the_tree) (w := w) KX G hmg c
    exact ⟨K, fd, PL.spLaw K, KX, hb, fun H a ns hl hB hO hS => ⟨a, ns, rfl, hS, hO, hl, hB, fun _ _ e => e⟩, hF⟩
